import PyProof.Rows.All
import Wide.All
import OpenK.AllK
import Wide.FinOn
import HandS.ForMost
import HandS.ForExc
import HandS.IsInst
import HandS.Conv
import HandS.WideBits
import HandS.Wide
import HandS.Lambda
import HandS.Defaults
import HandS.ExcInit
import HandS.DeepEq
import KE.DataEq
import KE.KEqNest
import HandS.TupAny
import HandS.Walk
import HandS.Style
import HandS.TupSets
import HandS.TupMul
import HandS.ExcField
import KE.KExcIs
import HandS.HeadEnd
import HandS.Head0
import HandS.Head1
import HandS.Head2
import HandS.HeadHook1
import HandS.HeadHook2
import HandS.HeadHook4
import HandS.EndTab
import KE.KStateDown
import Lean
import PySem.Challenge.RW_datedlayers_k10_any_values_as_numbers_li
set_option Elab.async false
set_option linter.all false
set_option maxRecDepth 100000
set_option maxHeartbeats 4000000
/-! DL0: deep values over the hand layer: representation, states, what a step keeps. -/
namespace DL
open PySem PySem.Spec PyProof.Rows L2
/-- the tables of code objects that may grow, with the name that each entry bears -/
abbrev Tb := List (Addr × Str)
variable {T : Tb}

abbrev D := PyData
/-- a dict's key as a datum -/
def kD : Key → D
  | .inl i => .int i
  | .inr x => .str x
/-- the script's datum: a dict that no text can write -/
def scD (ns : List Int) : D := .dict ((.none, .none) :: ns.map fun i => (.none, .int i))
mutual
/-- v stands for the datum d in the heap H (which never changes) -/
inductive Dr (K : PySem.W.Frag) (H : Hp) : V → D → Prop
  | non : Dr K H .non .none
  | bl (b : Bool) : Dr K H (.bl b) (.bool b)
  | int (i : Int) : Dr K H (.int i) (.int i)
  | str (x : Str) : Dr K H (.str x) (.str x)
  | lst {a : Addr} {xs : List V} {ds : List D} : H a = some (.lst xs) → DrA K H xs ds → Dr K H (.ref a) (.list ds)
  | tup {a : Addr} {xs : List V} {ds : List D} : SqT K H a xs → DrA K H xs ds → Dr K H (.ref a) (.tuple ds)
  | dic {a : Addr} {kvs : List (Key × V)} {ds : List (D × D)} : Rd H a (.dK kvs) → DrK K H kvs ds → Dr K H (.ref a) (.dict ds)
  | scr {a : Addr} {ns : List Int} : SqL K H a (ns.map V.int) → Dr K H (.ref a) (.dict ((.none, .none) :: ns.map fun i => (.none, .int i)))
inductive DrA (K : PySem.W.Frag) (H : Hp) : List V → List D → Prop
  | nil : DrA K H [] []
  | cons {v : V} {vs : List V} {d : D} {ds : List D} : Dr K H v d → DrA K H vs ds → DrA K H (v :: vs) (d :: ds)
inductive DrK (K : PySem.W.Frag) (H : Hp) : List (Key × V) → List (D × D) → Prop
  | nil : DrK K H [] []
  | cons {k : Key} {v : V} {vs : List (Key × V)} {d : D} {ds : List (D × D)} : Dr K H v d → DrK K H vs ds → DrK K H ((k, v) :: vs) ((kD k, d) :: ds)
end
theorem sameRd {H H' : Hp} (e : Same H H') {a : Addr} {u : HO} (h : Rd H a u) : Rd H' a u := by
  rcases h with h | ⟨o, h⟩
  · exact .inl (e _ _ h)
  · exact .inr ⟨o, e _ _ h⟩
theorem sameL {K : PySem.W.Frag} {H H' : Hp} (e : Same H H') {a : Addr} {xs : List V} (h : SqL K H a xs) : SqL K H' a xs := by
  rcases h with h | h
  · exact .inl (sameRd e h)
  · exact .inr h
theorem sameT {K : PySem.W.Frag} {H H' : Hp} (e : Same H H') {a : Addr} {xs : List V} (h : SqT K H a xs) : SqT K H' a xs := by
  rcases h with h | h
  · exact .inl (sameRd e h)
  · exact .inr h
mutual
theorem Dr.same {K : PySem.W.Frag} {H H' : Hp} (e : Same H H') : ∀ {v : V} {d : D}, Dr K H v d → Dr K H' v d
  | _, _, .non => .non
  | _, _, .bl b => .bl b
  | _, _, .int i => .int i
  | _, _, .str x => .str x
  | _, _, .lst h r => .lst (e _ _ h) (DrA.same e r)
  | _, _, .tup h r => .tup (sameT e h) (DrA.same e r)
  | _, _, .dic h r => .dic (sameRd e h) (DrK.same e r)
  | _, _, .scr h => .scr (sameL e h)
theorem DrA.same {K : PySem.W.Frag} {H H' : Hp} (e : Same H H') : ∀ {v : List V} {d : List D}, DrA K H v d → DrA K H' v d
  | _, _, .nil => .nil
  | _, _, .cons h r => .cons (Dr.same e h) (DrA.same e r)
theorem DrK.same {K : PySem.W.Frag} {H H' : Hp} (e : Same H H') : ∀ {v : List (Key × V)} {d : List (D × D)}, DrK K H v d → DrK K H' v d
  | _, _, .nil => .nil
  | _, _, .cons h r => .cons (Dr.same e h) (DrK.same e r)
end
theorem DrA.len {K : PySem.W.Frag} {H : Hp} : ∀ {v : List V} {d : List D}, DrA K H v d → v.length = d.length
  | _, _, .nil => rfl
  | _, _, .cons _ r => congrArg (· + 1) (DrA.len r)
theorem DrA.get {K : PySem.W.Frag} {H : Hp} : ∀ {vs : List V} {ds : List D} {i : Nat} {d : D}, DrA K H vs ds → ds[i]? = some d → ∃ v, vs[i]? = some v ∧ Dr K H v d
  | _, _, _, _, .nil, e => by simp at e
  | _, _, 0, _, .cons h _, e => by
    simp at e
    subst e
    exact ⟨_, rfl, h⟩
  | _, _, i + 1, d, .cons _ r, e => by
    obtain ⟨v, h1, h2⟩ := DrA.get (i := i) (d := d) r (by simpa using e)
    exact ⟨v, by simpa using h1, h2⟩
theorem DrA.get' {K : PySem.W.Frag} {H : Hp} : ∀ {vs : List V} {ds : List D} {i : Nat} {v : V}, DrA K H vs ds → vs[i]? = some v → ∃ d, ds[i]? = some d ∧ Dr K H v d
  | _, _, _, _, .nil, e => by simp at e
  | _, _, 0, _, .cons h _, e => by
    simp at e
    subst e
    exact ⟨_, rfl, h⟩
  | _, _, i + 1, v, .cons _ r, e => by
    obtain ⟨d, h1, h2⟩ := DrA.get' (i := i) (v := v) r (by simpa using e)
    exact ⟨d, by simpa using h1, h2⟩
theorem DrA.app {K : PySem.W.Frag} {H : Hp} : ∀ {vs ws : List V} {ds es : List D}, DrA K H vs ds → DrA K H ws es → DrA K H (vs ++ ws) (ds ++ es)
  | _, _, _, _, .nil, s => s
  | _, _, _, _, .cons h r, s => .cons h (DrA.app r s)
theorem DrA.put {K : PySem.W.Frag} {H : Hp} {v : V} {d : D} (h : Dr K H v d) : ∀ {vs : List V} {ds : List D} (i : Nat), DrA K H vs ds → DrA K H (vs.set i v) (ds.set i d)
  | _, _, _, .nil => .nil
  | _, _, 0, .cons _ r => .cons h r
  | _, _, i + 1, .cons g r => .cons g (DrA.put h i r)
theorem DrA.tk {K : PySem.W.Frag} {H : Hp} : ∀ {vs : List V} {ds : List D} (n : Nat), DrA K H vs ds → DrA K H (vs.take n) (ds.take n)
  | _, _, 0, _ => .nil
  | _, _, _ + 1, .nil => .nil
  | _, _, n + 1, .cons h r => .cons h (DrA.tk n r)
theorem DrA.dp {K : PySem.W.Frag} {H : Hp} : ∀ {vs : List V} {ds : List D} (n : Nat), DrA K H vs ds → DrA K H (vs.drop n) (ds.drop n)
  | _, _, 0, r => r
  | _, _, _ + 1, .nil => .nil
  | _, _, n + 1, .cons _ r => DrA.dp n r
/-- no dict within -/
def nod : D → Bool
  | .list xs => nodA xs
  | .tuple xs => nodA xs
  | .dict _ => false
  | _ => true
where nodA : List D → Bool
  | [] => true
  | x :: r => nod x && nodA r
mutual
theorem Dr.dp {K : PySem.W.Frag} {H : Hp} : ∀ {v : V} {d : D}, Dr K H v d → nod d = true → Dp K H v d
  | _, _, .non, _ => .non
  | _, _, .bl b, _ => .bl b
  | _, _, .int i, _ => .int i
  | _, _, .str x, _ => .str x
  | _, _, .lst h r, e => .lst (SqL.of h) (DrA.dpa r (by simpa [nod] using e))
  | _, _, .tup h r, e => .tup h (DrA.dpa r (by simpa [nod] using e))
  | _, _, .dic _ _, e => by simp [nod] at e
  | _, _, .scr _, e => by simp [nod] at e
theorem DrA.dpa {K : PySem.W.Frag} {H : Hp} : ∀ {vs : List V} {ds : List D}, DrA K H vs ds → nod.nodA ds = true → DpAll K H vs ds
  | _, _, .nil, _ => .nil
  | _, _, .cons h r, e => by
    simp only [nod.nodA, Bool.and_eq_true] at e
    exact .cons (Dr.dp h e.1) (DrA.dpa r e.2)
end

/-- a slot's content: nothing known, a frozen datum, an owned list -/
inductive Cell where
  | no
  | fz (d : D)
  | ow (ds : List D)
abbrev DEnv := List Cell
/-- a value: a frozen datum, a fresh list that nobody else holds -/
inductive Val where
  | fz (d : D)
  | ow (ds : List D)
def Val.d : Val → D
  | .fz d => d
  | .ow ds => .list ds
def Val.cell : Val → Cell
  | .fz d => .fz d
  | .ow ds => .ow ds
structure Exc where
  cls : Str
  fs : List (Str × D)
inductive DRes (α : Type) where
  | ok (a : α) (e : DEnv)
  | exc (x : Exc) (e : DEnv)
  | bad
abbrev DM (α : Type) := DEnv → DRes α
def DRes.andThen {α β : Type} (r : DRes α) (k : α → DM β) : DRes β :=
  match r with
  | .ok a e => k a e
  | .exc x e => .exc x e
  | .bad => .bad

structure DSt where
  st : L2.St
  en : DEnv
  hp : Hp
  fr : Hp
def Own (s : DSt) (a : Addr) : Prop := ∃ (i : Nat) (ds : List D), s.en[i]? = some (.ow ds) ∧ s.st[i]? = some (some (.ref a))
/-- tracked, and no table -/
def Trk (H : Hp) (a : Addr) : Prop := H a ≠ none ∧ ∀ ps, H a ≠ some (.tbl ps)
theorem Trk.eq {H H' : Hp} {a : Addr} (h : Trk H a) (e : H' a = H a) : Trk H' a := ⟨by rw [e]; exact h.1, fun ps => by rw [e]; exact h.2 ps⟩
theorem Trk.of {H : Hp} {a : Addr} {u : HO} (h : H a = some u) (n : ∀ ps, u ≠ .tbl ps) : Trk H a := ⟨by rw [h]; simp, fun ps z => n ps (Option.some.inj (h.symm.trans z))⟩
/-- an object other than the tables and what they tell is put -/
theorem tabs_upd {T : Tb} {H : Hp} {p : Addr} {o : HO} (t : LamX.Tabs T H) (h : H p = none ∨ ∃ xs, H p = some (.lst xs)) : LamX.Tabs T (upd H p o) := fun q hq => by
  obtain ⟨ps, h1, h2, h3⟩ := t q hq
  have n1 : q.1 ≠ p := fun z => by
    rw [z] at h1
    rcases h with h | ⟨xs, h⟩ <;> rw [h] at h1 <;> cases h1
  refine ⟨ps, by rw [upd_ne n1]; exact h1, h2, fun pos cv hc => ?_⟩
  obtain ⟨c, e1, e2⟩ := h3 pos cv hc
  have n2 : c ≠ p := fun z => by
    rw [z] at e2
    rcases h with h | ⟨xs, h⟩ <;> rw [h] at e2
    · cases e2
    · exact absurd (Option.some.inj e2) (fun z => by cases z)
  exact ⟨c, e1, by rw [upd_ne n2]; exact e2⟩
/-- the tables stand, and none is frozen -/
def TbOk (T : Tb) (H Hf : Hp) : Prop := LamX.Tabs T H ∧ ∀ b ps, Hf b ≠ some (.tbl ps)
theorem tbok_upd {T : Tb} {H Hf : Hp} {p : Addr} {o : HO} (t : TbOk T H Hf) (h : H p = none ∨ ∃ xs, H p = some (.lst xs)) : TbOk T (upd H p o) Hf := ⟨tabs_upd t.1 h, t.2⟩
theorem tbok_fz {T : Tb} {H Hf : Hp} {p : Addr} {o : HO} (t : TbOk T H Hf) (no : ∀ ps, o ≠ .tbl ps) : TbOk T H (upd Hf p o) := ⟨t.1, fun b ps z => by
  by_cases hb : b = p
  · rw [hb, upd_same] at z
    exact no ps (Option.some.inj z)
  · rw [upd_ne hb] at z
    exact t.2 b ps z⟩
/-- tracked, and neither frozen nor a slot's own -/
def Frn (s : DSt) (a : Addr) : Prop := Trk s.hp a ∧ s.fr a = none ∧ ¬ Own s a
structure ER (T : Tb) (K : PySem.W.Frag) (s : DSt) : Prop where
  len : s.en.length = s.st.length
  sub : Same s.fr s.hp
  fz : ∀ (i : Nat) (d : D), s.en[i]? = some (.fz d) → ∃ v, s.st[i]? = some (some v) ∧ Dr K s.fr v d
  ow : ∀ (i : Nat) (ds : List D), s.en[i]? = some (.ow ds) → ∃ a xs, s.st[i]? = some (some (.ref a)) ∧ s.hp a = some (.lst xs) ∧ s.fr a = none ∧ DrA K s.fr xs ds
  inj : ∀ (i j : Nat) (ds es : List D) (a : Addr), s.en[i]? = some (.ow ds) → s.en[j]? = some (.ow es) → s.st[i]? = some (some (.ref a)) → s.st[j]? = some (some (.ref a)) → i = j
  tb : TbOk T s.hp s.fr
structure Ext (L : Nat) (s s' : DSt) : Prop where
  keep : Same s.fr s'.fr
  frn : ∀ a, Frn s a → Frn s' a ∧ s'.hp a = s.hp a
  lk : ∀ (i : Nat), i < L → s'.st[i]? = s.st[i]?
theorem Ext.refl {L : Nat} {s : DSt} : Ext L s s := ⟨Same.refl _, fun _ h => ⟨h, rfl⟩, fun _ _ => rfl⟩
theorem Ext.trans {L : Nat} {s s1 s2 : DSt} (a : Ext L s s1) (b : Ext L s1 s2) : Ext L s s2 :=
  ⟨a.keep.trans b.keep, fun x h => by
    obtain ⟨h1, e1⟩ := a.frn x h
    obtain ⟨h2, e2⟩ := b.frn x h1
    exact ⟨h2, e2.trans e1⟩, fun i h => (b.lk i h).trans (a.lk i h)⟩
/-- what a value stands for; an own one is new -/
def VR (K : PySem.W.Frag) (s s' : DSt) (v : V) : Val → Prop
  | .fz d => Dr K s'.fr v d
  | .ow ds => ∃ a xs, v = .ref a ∧ s'.hp a = some (.lst xs) ∧ DrA K s'.fr xs ds ∧ Frn s' a ∧ ¬ Frn s a

theorem own_same {s s' : DSt} (e1 : s'.st = s.st) (e2 : s'.en = s.en) {a : Addr} : Own s' a ↔ Own s a := by
  unfold Own; rw [e1, e2]
theorem frn_of {s : DSt} {a : Addr} (h : s.hp a = none) : ¬ Frn s a := fun z => z.1.1 h
theorem not_own_new {K : PySem.W.Frag} {s : DSt} (E : ER T K s) {p : Addr} (h : s.hp p = none) : ¬ Own s p := fun ⟨i, ds, e1, e2⟩ => by
  obtain ⟨a, xs, h1, h2, _⟩ := E.ow i ds e1
  rw [e2] at h1
  cases h1
  rw [h] at h2; cases h2
theorem fr_none {K : PySem.W.Frag} {s : DSt} (E : ER T K s) {p : Addr} (h : s.hp p = none) : s.fr p = none := E.sub.free h
/-- a new object that is nobody's yet -/
theorem ER.laid {K : PySem.W.Frag} {L : Nat} {s : DSt} (E : ER T K s) {p : Addr} (o : HO) (h : s.hp p = none) (no : ∀ ps, o ≠ .tbl ps := by intro _ z; cases z) :
    ER T K ⟨s.st, s.en, upd s.hp p o, s.fr⟩ ∧ Ext L s ⟨s.st, s.en, upd s.hp p o, s.fr⟩ ∧ Frn ⟨s.st, s.en, upd s.hp p o, s.fr⟩ p := by
  refine ⟨⟨E.len, fun b u q => ?_, E.fz, fun i ds e => ?_, E.inj, tbok_upd E.tb (.inl h)⟩, ⟨Same.refl _, fun a f => ⟨⟨?_, f.2.1, f.2.2⟩, ?_⟩, fun _ _ => rfl⟩, ⟨.of (u := o) upd_same no, fr_none E h, not_own_new E h⟩⟩
  · have hb : b ≠ p := fun z => by subst z; rw [fr_none E h] at q; cases q
    show upd s.hp p o b = some u
    rw [upd_ne hb]
    exact E.sub b u q
  · obtain ⟨a, xs, h1, h2, h3, h4⟩ := E.ow i ds e
    refine ⟨a, xs, h1, ?_, h3, h4⟩
    have ha : a ≠ p := fun z => by subst z; rw [h] at h2; cases h2
    show upd s.hp p o a = _
    rw [upd_ne ha]
    exact h2
  · have ha : a ≠ p := fun z => by subst z; exact f.1.1 h
    exact f.1.eq (upd_ne ha)
  · have ha : a ≠ p := fun z => by subst z; exact f.1.1 h
    exact upd_ne ha
/-- a thing that is nobody's is frozen as it stands -/
theorem ER.froz {K : PySem.W.Frag} {L : Nat} {s0 s : DSt} (E : ER T K s) (X : Ext L s0 s) {p : Addr} {o : HO} (h : s.hp p = some o) (f : Frn s p) (nf : ¬ Frn s0 p) :
    ER T K ⟨s.st, s.en, s.hp, upd s.fr p o⟩ ∧ Ext L s0 ⟨s.st, s.en, s.hp, upd s.fr p o⟩ ∧ Same s.fr (upd s.fr p o) := by
  have sm : Same s.fr (upd s.fr p o) := fun b u q => by
    have hb : b ≠ p := fun z => by subst z; rw [f.2.1] at q; cases q
    rw [upd_ne hb]
    exact q
  refine ⟨⟨E.len, fun b u q => ?_, fun i d e => ?_, fun i ds e => ?_, E.inj, tbok_fz E.tb (fun ps z => f.1.2 ps (by rw [h, z]))⟩, ⟨X.keep.trans sm, fun a q => ?_, X.lk⟩, sm⟩
  · by_cases hb : b = p
    · subst hb
      have q' : upd s.fr b o b = some u := q
      rw [upd_same] at q'
      cases q'
      exact h
    · have q' : upd s.fr p o b = some u := q
      rw [upd_ne hb] at q'
      exact E.sub b u q'
  · obtain ⟨v, h1, h2⟩ := E.fz i d e
    exact ⟨v, h1, h2.same sm⟩
  · obtain ⟨a, xs, h1, h2, h3, h4⟩ := E.ow i ds e
    refine ⟨a, xs, h1, h2, ?_, h4.same sm⟩
    have ha : a ≠ p := fun z => by subst z; exact f.2.2 ⟨i, ds, e, h1⟩
    show upd s.fr p o a = none
    rw [upd_ne ha]
    exact h3
  · obtain ⟨⟨q1, q2, q3⟩, q4⟩ := X.frn a q
    have ha : a ≠ p := fun z => by subst z; exact nf q
    refine ⟨⟨q1, ?_, q3⟩, q4⟩
    show upd s.fr p o a = none
    rw [upd_ne ha]
    exact q2
/-- a new frozen object -/
theorem ER.newFz {K : PySem.W.Frag} {L : Nat} {s : DSt} (E : ER T K s) {p : Addr} (o : HO) (h : s.hp p = none) (no : ∀ ps, o ≠ .tbl ps := by intro _ z; cases z) :
    ER T K ⟨s.st, s.en, upd s.hp p o, upd s.fr p o⟩ ∧ Ext L s ⟨s.st, s.en, upd s.hp p o, upd s.fr p o⟩ ∧ Same s.fr (upd s.fr p o) := by
  obtain ⟨E1, X1, f1⟩ := E.laid (L := L) o h no
  exact E1.froz X1 (show upd s.hp p o p = some o from upd_same) f1 (frn_of h)
theorem ER.hpDr {K : PySem.W.Frag} {s : DSt} (E : ER T K s) {v : V} {d : D} (h : Dr K s.fr v d) : Dr K s.hp v d := h.same E.sub

/-! ### readings -/
structure Cc where
  T : Tb
  K : PySem.W.Frag
  mg : Str → Option Value
  L : Nat
  W : WX
def FdR (K : PySem.W.Frag) (H : Hp) : List (Str × V) → List (Str × D) → Prop := Paired fun p q => p.1 = q.1 ∧ Dr K H p.2 q.2
/-- an exception as it lies -/
def XR (c : Cc) (s' : DSt) (C : Value) (dx : Option Addr) (x : Exc) : Prop :=
  ∃ a, C = .ref a ∧ c.mg x.cls = some (.ref a) ∧ ∃ d fs, dx = some d ∧ s'.hp d = some (.xd fs) ∧ FdR c.K s'.fr fs x.fs
/-- what is wanted behind a run, from the base s0 on -/
def Post {α β : Type} (c : Cc) (rel : DSt → DSt → β → α → Prop) (s0 : DSt) (r : DRes α) (Q : β → Hp → Prop) : Prop :=
  match r with
  | .ok a e => ∀ b H' Hf', ER c.T c.K ⟨s0.st, e, H', Hf'⟩ → Ext c.L s0 ⟨s0.st, e, H', Hf'⟩ → rel s0 ⟨s0.st, e, H', Hf'⟩ b a → Q b H'
  | .exc x e => ∀ C dx H' Hf', ER c.T c.K ⟨s0.st, e, H', Hf'⟩ → Ext c.L s0 ⟨s0.st, e, H', Hf'⟩ → XR c ⟨s0.st, e, H', Hf'⟩ C dx x → c.W C dx s0.st H'
  | .bad => False
def tR {α β : Type} (c : Cc) (rel : DSt → DSt → β → α → Prop) (m : DM α) : L2.St → Hp → (β → Hp → Prop) → Prop :=
  fun σ H Q => ∃ e Hf, ER c.T c.K ⟨σ, e, H, Hf⟩ ∧ Post c rel ⟨σ, e, H, Hf⟩ (m e) Q
def rV (c : Cc) : DSt → DSt → V → Val → Prop := fun s s' v a => VR c.K s s' v a
def rD (c : Cc) : DSt → DSt → V → D → Prop := fun _ s' v d => Dr c.K s'.fr v d
def rA (c : Cc) : DSt → DSt → List V → List D → Prop := fun _ s' v d => DrA c.K s'.fr v d
def rB : DSt → DSt → Bool → Bool → Prop := fun _ _ b a => b = a
def rU : DSt → DSt → Unit → Unit → Prop := fun _ _ _ _ => True
/-- a relation that an earlier base bears -/
def Mono {α β : Type} (L : Nat) (rel : DSt → DSt → β → α → Prop) : Prop := ∀ s s1 s2 b a, Ext L s s1 → rel s1 s2 b a → rel s s2 b a
theorem mono_rV {c : Cc} {L : Nat} : Mono L (rV c) := fun s s1 s2 b a X h => by
  cases a with
  | fz d => exact h
  | ow ds =>
    obtain ⟨p, xs, h1, h2, h3, h4, h5⟩ := h
    exact ⟨p, xs, h1, h2, h3, h4, fun z => h5 (X.frn p z).1⟩
theorem mono_rD {c : Cc} {L : Nat} : Mono L (rD c) := fun _ _ _ _ _ _ h => h
theorem mono_rA {c : Cc} {L : Nat} : Mono L (rA c) := fun _ _ _ _ _ _ h => h
theorem mono_rB {L : Nat} : Mono L rB := fun _ _ _ _ _ _ h => h
section
variable {α β γ δ : Type} {c : Cc} {rel : DSt → DSt → β → α → Prop} {rel' : DSt → DSt → δ → γ → Prop} {s0 s1 : DSt} {r : DRes α} {k : α → DM γ}
theorem Post.base {Q : β → Hp → Prop} (X : Ext c.L s0 s1) (e : s1.st = s0.st) (m : Mono c.L rel) (h : Post c rel s0 r Q) : Post c rel s1 r Q := by
  obtain ⟨st1, en1, hp1, fr1⟩ := s1
  obtain rfl : st1 = s0.st := e
  cases r with
  | ok a e => exact fun b H' Hf' E X' q => h b H' Hf' E (X.trans X') (m _ _ _ _ _ X q)
  | exc x e => exact fun C dx H' Hf' E X' q => h C dx H' Hf' E (X.trans X') q
  | bad => exact h
theorem Post.bind {Q : δ → Hp → Prop} (h : Post c rel' s0 (r.andThen k) Q) :
    Post c rel s0 r (fun b H1 => ∃ a e Hf1, ER c.T c.K ⟨s0.st, e, H1, Hf1⟩ ∧ Ext c.L s0 ⟨s0.st, e, H1, Hf1⟩ ∧ rel s0 ⟨s0.st, e, H1, Hf1⟩ b a ∧ Post c rel' s0 (k a e) Q) := by
  cases r with
  | ok a e => exact fun b H' Hf' E X q => ⟨a, e, Hf', E, X, q, h⟩
  | exc x e => exact h
  | bad => exact h
theorem Post.mono {Q Q' : β → Hp → Prop} (h : Post c rel s0 r Q) (hq : ∀ b H, Q b H → Q' b H) : Post c rel s0 r Q' := by
  cases r with
  | ok a e => exact fun b H' Hf' E X q => hq _ _ (h b H' Hf' E X q)
  | exc x e => exact h
  | bad => exact h
end
theorem peImp {X : Cx} {e : Expr} {t t' : TE} (h : PE X e t) (i : ∀ σ H Q, t' σ H Q → t σ H Q) : PE X e t' := ⟨fun pins s σ H Q I q => h.run pins s σ H Q I (i σ H Q q)⟩
theorem ptImp {X : Cx} {e : Expr} {t t' : TT} (h : PT X e t) (i : ∀ σ H Q, t' σ H Q → t σ H Q) : PT X e t' := ⟨fun pins s σ H Q I q => h.run pins s σ H Q I (i σ H Q q)⟩
theorem pwImp {X : Cx} {e : Expr} {t t' : TT} (h : PW X e t) (i : ∀ σ H Q, t' σ H Q → t σ H Q) : PW X e t' := ⟨fun wh pins s σ H Q I q => h.run wh pins s σ H Q I (i σ H Q q)⟩
theorem paImp {X : Cx} {e : List Expr} {t t' : TA} (h : PA X e t) (i : ∀ σ H Q, t' σ H Q → t σ H Q) : PA X e t' := ⟨fun p pins s σ H Q I q => h.run p pins s σ H Q I (i σ H Q q)⟩
theorem psImp {X : Cx} {e : Stmt} {t t' : TS} (h : PS X e t) (i : ∀ D σ H, t' D σ H → t D σ H) : PS X e t' := ⟨fun pins s σ H D I q => h.run pins s σ H D I (i D σ H q)⟩
theorem pssImp {X : Cx} {e : List Stmt} {t t' : TS} (h : PSs X e t) (i : ∀ D σ H, t' D σ H → t D σ H) : PSs X e t' := ⟨fun pins s σ H D I q => h.run pins s σ H D I (i D σ H q)⟩

/-- an expression does m -/
def DE (X : Cx) (c : Cc) (e : Expr) (m : DM Val) : Prop := PE X e (tR c (rV c) m)
def DD (X : Cx) (c : Cc) (e : Expr) (m : DM D) : Prop := PE X e (tR c (rD c) m)
def DA (X : Cx) (c : Cc) (e : List Expr) (m : DM (List D)) : Prop := PA X e (tR c (rA c) m)
def DT (X : Cx) (c : Cc) (e : Expr) (m : DM Bool) : Prop := PT X e (tR c rB m)
/-- frozen -/
def mFz (m : DM Val) : DM D := fun e => (m e).andThen fun v e' => .ok v.d e'
def mUp (m : DM D) : DM Val := fun e => (m e).andThen fun d e' => .ok (.fz d) e'
theorem dd_fz {X : Cx} {c : Cc} {e : Expr} {m : DM Val} (h : DE X c e m) : DD X c e (mFz m) := by
  refine peImp h fun σ H Q q => ?_
  obtain ⟨en, Hf, E, q⟩ := q
  refine ⟨en, Hf, E, ?_⟩
  refine Post.mono (Post.bind (rel := rV c) (show Post c (rD c) _ ((m en).andThen fun v e' => .ok v.d e') Q from q)) fun v H1 w => ?_
  obtain ⟨a, e1, Hf1, E1, X1, r1, q1⟩ := w
  cases a with
  | fz d => exact q1 v H1 Hf1 E1 X1 r1
  | ow ds =>
    obtain ⟨p, xs, rfl, h2, h3, h4, h5⟩ := r1
    obtain ⟨E2, X2, sm⟩ := E1.froz X1 h2 h4 h5
    refine q1 _ H1 _ E2 X2 (.lst ?_ (h3.same sm))
    show upd Hf1 p _ p = _
    rw [upd_same]
theorem de_up {X : Cx} {c : Cc} {e : Expr} {m : DM D} (h : DD X c e m) : DE X c e (mUp m) := by
  refine peImp h fun σ H Q q => ?_
  obtain ⟨en, Hf, E, q⟩ := q
  refine ⟨en, Hf, E, ?_⟩
  refine Post.mono (Post.bind (rel := rD c) (show Post c (rV c) _ ((m en).andThen fun v e' => .ok (.fz v) e') Q from q)) fun v H1 w => ?_
  obtain ⟨a, e1, Hf1, E1, X1, r1, q1⟩ := w
  exact q1 v H1 Hf1 E1 X1 r1
end DL

/-! DL1: rules of expressions, by deep values. -/
namespace DL
open PySem PySem.Spec PyProof.Rows L2
variable {T : Tb}
section
variable {α β γ δ : Type} {c : Cc} {rel : DSt → DSt → β → α → Prop} {rel' : DSt → DSt → δ → γ → Prop} {s0 : DSt} {r : DRes α} {k : α → DM γ}
/-- one step, from the state behind it on -/
theorem Post.next {Q : δ → Hp → Prop} (m : Mono c.L rel') (h : Post c rel' s0 (r.andThen k) Q) :
    Post c rel s0 r (fun b H1 => ∃ a e Hf1, ER c.T c.K ⟨s0.st, e, H1, Hf1⟩ ∧ Ext c.L s0 ⟨s0.st, e, H1, Hf1⟩ ∧ rel s0 ⟨s0.st, e, H1, Hf1⟩ b a ∧ Post c rel' ⟨s0.st, e, H1, Hf1⟩ (k a e) Q) :=
  Post.mono (Post.bind (rel := rel) h) fun b H1 ⟨a, e, Hf1, E, X, q, p⟩ => ⟨a, e, Hf1, E, X, q, Post.base (s0 := s0) X rfl m p⟩
end

/-! ### constants, names -/
def mC (d : D) : DM Val := fun e => .ok (.fz d) e
def mV (L i : Nat) : DM Val := fun e => match e[i]? with
  | some (.fz d) => .ok (.fz d) e
  | some (.ow ds) => if i < L then .bad else .ok (.fz (.list ds)) (e.set i (.fz (.list ds)))
  | _ => .bad
/-- a constant's value -/
theorem rd_c {c : Cc} {v : V} {d : D} (h : ∀ H, Dr c.K H v d) {σ : L2.St} {H : Hp} {Q : VK} (q : tR c (rV c) (mC d) σ H Q) : tC v σ H Q := by
  obtain ⟨e, Hf, E, q⟩ := q
  exact q v H Hf E Ext.refl (h _)
theorem getElem?_set_ne' {α : Type} {l : List α} {i j : Nat} {a : α} (h : i ≠ j) : (l.set i a)[j]? = l[j]? := List.getElem?_set_ne h
/-- an owned slot is frozen as it stands -/
theorem ER.fslot {K : PySem.W.Frag} {L : Nat} {s : DSt} (E : ER T K s) {i : Nat} {ds : List D} {a : Addr} {xs : List V} (e : s.en[i]? = some (.ow ds)) (ha : s.st[i]? = some (some (.ref a))) (h1 : s.hp a = some (.lst xs)) (h2 : s.fr a = none) (h3 : DrA K s.fr xs ds) :
    ER T K ⟨s.st, s.en.set i (.fz (.list ds)), s.hp, upd s.fr a (.lst xs)⟩ ∧ Ext L s ⟨s.st, s.en.set i (.fz (.list ds)), s.hp, upd s.fr a (.lst xs)⟩ ∧ Dr K (upd s.fr a (.lst xs)) (.ref a) (.list ds) := by
  have sm : Same s.fr (upd s.fr a (.lst xs)) := fun b u q => by
    have hb : b ≠ a := fun z => by subst z; rw [h2] at q; cases q
    rw [upd_ne hb]
    exact q
  have hi : i < s.en.length := (List.getElem?_eq_some_iff.mp e).1
  have dr : Dr K (upd s.fr a (.lst xs)) (.ref a) (.list ds) := .lst upd_same (h3.same sm)
  refine ⟨⟨by rw [List.length_set]; exact E.len, fun b u q => ?_, fun j d q => ?_, fun j es q => ?_, fun j k es fs p q1 q2 q3 q4 => ?_, tbok_fz E.tb (fun _ z => by cases z)⟩, ⟨sm, fun p f => ⟨⟨f.1, ?_, fun ⟨j, es, q1, q2⟩ => ?_⟩, rfl⟩, fun _ _ => rfl⟩, dr⟩
  · by_cases hb : b = a
    · subst hb
      have q' : upd s.fr b (.lst xs) b = some u := q
      rw [upd_same] at q'
      cases q'
      exact h1
    · have q' : upd s.fr a (.lst xs) b = some u := q
      rw [upd_ne hb] at q'
      exact E.sub b u q'
  · by_cases hj : i = j
    · subst hj
      have q' : (s.en.set i (Cell.fz (.list ds)))[i]? = some (.fz d) := q
      rw [List.getElem?_set_self hi] at q'
      cases q'
      exact ⟨.ref a, ha, dr⟩
    · have q' : (s.en.set i (Cell.fz (.list ds)))[j]? = some (.fz d) := q
      rw [List.getElem?_set_ne hj] at q'
      obtain ⟨v, g1, g2⟩ := E.fz j d q'
      exact ⟨v, g1, g2.same sm⟩
  · have q' : (s.en.set i (Cell.fz (.list ds)))[j]? = some (.ow es) := q
    by_cases hj : i = j
    · subst hj
      rw [List.getElem?_set_self hi] at q'
      cases q'
    · rw [List.getElem?_set_ne hj] at q'
      obtain ⟨p, ys, g1, g2, g3, g4⟩ := E.ow j es q'
      refine ⟨p, ys, g1, g2, ?_, g4.same sm⟩
      have hp : p ≠ a := fun z => by subst z; exact hj (E.inj i j ds es _ e q' ha g1)
      show upd s.fr a _ p = none
      rw [upd_ne hp]
      exact g3
  · have r : ∀ (j : Nat) (es : List D), (s.en.set i (Cell.fz (.list ds)))[j]? = some (.ow es) → s.en[j]? = some (.ow es) := fun j es q => by
      by_cases hj : i = j
      · subst hj
        rw [List.getElem?_set_self hi] at q
        cases q
      · rw [List.getElem?_set_ne hj] at q
        exact q
    exact E.inj j k es fs p (r j es q1) (r k fs q2) q3 q4
  · have hp : p ≠ a := fun z => by subst z; exact f.2.2 ⟨i, ds, e, ha⟩
    show upd s.fr a _ p = none
    rw [upd_ne hp]
    exact f.2.1
  · have q1' : (s.en.set i (Cell.fz (.list ds)))[j]? = some (.ow es) := q1
    by_cases hj : i = j
    · subst hj
      rw [List.getElem?_set_self hi] at q1'
      cases q1'
    · rw [List.getElem?_set_ne hj] at q1'
      exact f.2.2 ⟨j, es, q1', q2⟩
theorem rd_v {c : Cc} {i : Nat} {σ : L2.St} {H : Hp} {Q : VK} (q : tR c (rV c) (mV c.L i) σ H Q) : tVar i σ H Q := by
  obtain ⟨e, Hf, E, q⟩ := q
  unfold mV at q
  cases h : e[i]? with
  | none => rw [h] at q; exact q.elim
  | some cl =>
    cases cl with
    | no => rw [h] at q; exact q.elim
    | fz d =>
      rw [h] at q
      obtain ⟨v, h1, h2⟩ := E.fz i d h
      exact ⟨v, h1, q v H Hf E Ext.refl h2⟩
    | ow ds =>
      rw [h] at q
      by_cases hl : i < c.L
      · dsimp only at q; rw [if_pos hl] at q; exact q.elim
      · dsimp only at q; rw [if_neg hl] at q
        obtain ⟨a, xs, h1, h2, h3, h4⟩ := E.ow i ds h
        obtain ⟨E1, X1, d1⟩ := E.fslot (L := c.L) h h1 h2 h3 h4
        exact ⟨.ref a, h1, q _ _ _ E1 X1 d1⟩

/-! ### lists of expressions -/
def mAll : List (DM D) → DM (List D)
  | [] => fun e => .ok [] e
  | m :: r => fun e => (m e).andThen fun d e1 => (mAll r e1).andThen fun ds e2 => .ok (d :: ds) e2
theorem da_nil {X : Cx} {c : Cc} : DA X c [] (mAll []) := paImp pa_nil fun σ H Q q => by
  obtain ⟨e, Hf, E, q⟩ := q
  exact q [] H Hf E Ext.refl .nil
theorem rd_cons {c : Cc} {m : DM D} {r : DM (List D)} {σ : L2.St} {H : Hp} {Q : List V → Hp → Prop}
    (q : tR c (rA c) (fun e => (m e).andThen fun d e1 => (r e1).andThen fun ds e2 => .ok (d :: ds) e2) σ H Q) : tCons (tR c (rD c) m) (tR c (rA c) r) σ H Q := by
  obtain ⟨e, Hf, E, q⟩ := q
  refine ⟨e, Hf, E, Post.mono (Post.next mono_rA q) fun v H1 w => ?_⟩
  obtain ⟨d, e1, Hf1, E1, X1, r1, q1⟩ := w
  refine ⟨e1, Hf1, E1, Post.mono (Post.next mono_rA q1) fun vs H2 w2 => ?_⟩
  obtain ⟨ds, e2, Hf2, E2, X2, r2, q2⟩ := w2
  exact q2 _ _ _ E2 Ext.refl (.cons (Dr.same X2.keep r1) r2)
theorem da_cons {X : Cx} {c : Cc} {e : Expr} {es : List Expr} {m : DM D} {ms : List (DM D)} (h : DD X c e m) (hr : DA X c es (mAll ms)) (hs : starEach (e :: es) X.env = (false, eval e X.env) :: starEach es X.env) : DA X c (e :: es) (mAll (m :: ms)) :=
  paImp (pa_cons h hr hs) fun _ _ _ q => rd_cons q
def mTup (m : DM (List D)) : DM Val := fun e => (m e).andThen fun ds e1 => .ok (.fz (.tuple ds)) e1
def mLst (m : DM (List D)) : DM Val := fun e => (m e).andThen fun ds e1 => .ok (.ow ds) e1
theorem rd_tup {c : Cc} {m : DM (List D)} {n : Nat} (hn : n ≤ sizeLine) (hl : ∀ e ds e', m e = .ok ds e' → ds.length = n) {σ : L2.St} {H : Hp} {Q : VK} (q : tR c (rV c) (mTup m) σ H Q) : tTup (tR c (rA c) m) σ H Q := by
  obtain ⟨e, Hf, E, q⟩ := q
  refine ⟨e, Hf, E, ?_⟩
  unfold mTup at q
  cases hm : m e with
  | bad => rw [hm] at q; exact q
  | exc x e' => rw [hm] at q; exact q
  | ok ds e1 =>
    rw [hm] at q
    intro xs H1 Hf1 E1 X1 r1
    refine ⟨by rw [DrA.len r1, hl e ds e1 hm]; exact hn, fun p hp => ?_⟩
    obtain ⟨E2, X2, sm⟩ := E1.newFz (L := c.L) (.tup xs) hp
    exact q _ _ _ E2 (X1.trans X2) (.tup (SqT.of upd_same) (DrA.same sm r1))
theorem rd_lst {c : Cc} {m : DM (List D)} {n : Nat} (hn : n ≤ sizeLine) (hl : ∀ e ds e', m e = .ok ds e' → ds.length = n) {σ : L2.St} {H : Hp} {Q : VK} (q : tR c (rV c) (mLst m) σ H Q) : tLst (tR c (rA c) m) σ H Q := by
  obtain ⟨e, Hf, E, q⟩ := q
  refine ⟨e, Hf, E, ?_⟩
  unfold mLst at q
  cases hm : m e with
  | bad => rw [hm] at q; exact q
  | exc x e' => rw [hm] at q; exact q
  | ok ds e1 =>
    rw [hm] at q
    intro xs H1 Hf1 E1 X1 r1
    refine ⟨by rw [DrA.len r1, hl e ds e1 hm]; exact hn, fun p hp => ?_⟩
    obtain ⟨E2, X2, f2⟩ := E1.laid (L := c.L) (.lst xs) hp
    exact q _ _ _ E2 (X1.trans X2) ⟨p, xs, rfl, upd_same, r1, f2, fun f => frn_of hp (X1.frn p f).1⟩
theorem mAll_len : ∀ (ms : List (DM D)) (e : DEnv) (ds : List D) (e' : DEnv), mAll ms e = .ok ds e' → ds.length = ms.length
  | [], e, ds, e', h => by
    cases h; rfl
  | m :: r, e, ds, e', h => by
    unfold mAll at h
    cases h1 : m e with
    | bad => rw [h1] at h; cases h
    | exc x e1 => rw [h1] at h; cases h
    | ok d e1 =>
      rw [h1] at h
      cases h2 : mAll r e1 with
      | bad => simp only [DRes.andThen, h2] at h; cases h
      | exc x e2 => simp only [DRes.andThen, h2] at h; cases h
      | ok es e2 =>
        simp only [DRes.andThen, h2] at h
        cases h
        simp [mAll_len r e1 es _ h2]
theorem de_tup {X : Cx} {c : Cc} {es : List Expr} {ms : List (DM D)} {k : Nat} {pos : Pos} (h : DA X c es (mAll ms)) (hn : ms.length ≤ sizeLine) : DE X c (.Tuple es k pos) (mTup (mAll ms)) := peImp (pe_tup h) fun _ _ _ q => rd_tup hn (mAll_len ms) q
theorem de_lst {X : Cx} {c : Cc} {es : List Expr} {ms : List (DM D)} {pos : Pos} (h : DA X c es (mAll ms)) (hn : ms.length ≤ sizeLine) : DE X c (.List es pos) (mLst (mAll ms)) := peImp (pe_lst h) fun _ _ _ q => rd_lst hn (mAll_len ms) q
theorem de_dict0 {X : Cx} {c : Cc} {pos : Pos} : DE X c (.Dict [] [] pos) (mC (.dict [])) := peImp pe_dnewK fun σ H Q q => by
  obtain ⟨e, Hf, E, q⟩ := q
  intro p hp
  obtain ⟨E2, X2, sm⟩ := E.newFz (L := c.L) (.dK []) hp
  exact q _ _ _ E2 X2 (.dic (.inl upd_same) .nil)

/-! ### operands: a name's own list is looked at where it is used -/
/-- v stands for d, an own list where it is -/
inductive Db (K : PySem.W.Frag) (s : DSt) : V → D → Prop
  | non : Db K s .non .none
  | bl (b : Bool) : Db K s (.bl b) (.bool b)
  | int (i : Int) : Db K s (.int i) (.int i)
  | str (x : Str) : Db K s (.str x) (.str x)
  | lst {a : Addr} {xs : List V} {ds : List D} : s.hp a = some (.lst xs) → DrA K s.fr xs ds → Db K s (.ref a) (.list ds)
  | tup {a : Addr} {xs : List V} {ds : List D} : SqT K s.fr a xs → DrA K s.fr xs ds → Db K s (.ref a) (.tuple ds)
  | dic {a : Addr} {kvs : List (Key × V)} {ds : List (D × D)} : Rd s.fr a (.dK kvs) → DrK K s.fr kvs ds → Db K s (.ref a) (.dict ds)
  | scr {a : Addr} {ns : List Int} : SqL K s.fr a (ns.map V.int) → Db K s (.ref a) (.dict ((.none, .none) :: ns.map fun i => (.none, .int i)))
theorem Db.of {K : PySem.W.Frag} {s : DSt} (E : ER T K s) {v : V} {d : D} (h : Dr K s.fr v d) : Db K s v d := by
  cases h with
  | non => exact .non
  | bl b => exact .bl b
  | int i => exact .int i
  | str x => exact .str x
  | lst h r => exact .lst (E.sub _ _ h) r
  | tup h r => exact .tup h r
  | dic h r => exact .dic h r
  | scr h => exact .scr h
theorem Db.hp {K : PySem.W.Frag} {s : DSt} (E : ER T K s) {v : V} {d : D} (h : Db K s v d) : Dr K s.hp v d := by
  cases h with
  | non => exact .non
  | bl b => exact .bl b
  | int i => exact .int i
  | str x => exact .str x
  | lst h r => exact .lst h (r.same E.sub)
  | tup h r => exact .tup (sameT E.sub h) (r.same E.sub)
  | dic h r => exact .dic (sameRd E.sub h) (r.same E.sub)
  | scr h => exact .scr (sameL E.sub h)
inductive Opd where
  | nm (i : Nat)
  | ex (m : DM D)
def slotD (e : DEnv) (i : Nat) : Option D := match e[i]? with
  | some (.fz d) => some d
  | some (.ow ds) => some (.list ds)
  | _ => none
def Opd.ev : Opd → DM (Option D)
  | .nm i => fun e => match slotD e i with
    | some _ => .ok none e
    | none => .bad
  | .ex m => fun e => (m e).andThen fun d e1 => .ok (some d) e1
def Opd.now : Opd → Option D → DEnv → Option D
  | .nm i, _, e => slotD e i
  | .ex _, x, _ => x
def tOpd (c : Cc) : Opd → TE
  | .nm i => tVar i
  | .ex m => tR c (rD c) m
/-- what an operand's value is, till it is used -/
def OR (K : PySem.W.Frag) (s : DSt) : Opd → V → Option D → Prop
  | .nm i, v, _ => s.st[i]? = some (some v)
  | .ex _, v, x => ∃ d, x = some d ∧ Dr K s.fr v d
theorem OR.keep {K : PySem.W.Frag} {L : Nat} {s s' : DSt} (X : Ext L s s') (e : s'.st = s.st) : ∀ {o : Opd} {v : V} {x : Option D}, OR K s o v x → OR K s' o v x
  | .nm i, v, x, h => by
    show s'.st[i]? = some (some v)
    rw [e]
    exact h
  | .ex m, v, x, ⟨d, h1, h2⟩ => ⟨d, h1, h2.same X.keep⟩
theorem slotD_ok {K : PySem.W.Frag} {s : DSt} (E : ER T K s) {i : Nat} {d : D} (h : slotD s.en i = some d) : ∃ v, s.st[i]? = some (some v) ∧ Db K s v d := by
  unfold slotD at h
  cases q : s.en[i]? with
  | none => rw [q] at h; cases h
  | some cl =>
    rw [q] at h
    cases cl with
    | no => cases h
    | fz d' =>
      cases h
      obtain ⟨v, h1, h2⟩ := E.fz i d q
      exact ⟨v, h1, .of E h2⟩
    | ow ds =>
      cases h
      obtain ⟨a, xs, h1, h2, h3, h4⟩ := E.ow i ds q
      exact ⟨_, h1, .lst h2 h4⟩
theorem OR.now {K : PySem.W.Frag} {s : DSt} (E : ER T K s) : ∀ {o : Opd} {v : V} {x : Option D} {d : D}, OR K s o v x → o.now x s.en = some d → Db K s v d
  | .nm i, v, x, d, h, q => by
    obtain ⟨w, h1, h2⟩ := slotD_ok E (show slotD s.en i = some d from q)
    have h' : s.st[i]? = some (some v) := h
    rw [h1] at h'
    cases h'
    exact h2
  | .ex m, v, x, d, ⟨d', h1, h2⟩, q => by
    have q' : x = some d := q
    rw [h1] at q'
    cases q'
    exact .of E h2
/-- one operand is reckoned -/
theorem opd_step {c : Cc} {α β : Type} {rel : DSt → DSt → β → α → Prop} {σ : L2.St} {e : DEnv} {H Hf : Hp} {o : Opd} {k : Option D → DM α} {Q : β → Hp → Prop} (m : Mono c.L rel) (E : ER c.T c.K ⟨σ, e, H, Hf⟩) (q : Post c rel ⟨σ, e, H, Hf⟩ ((o.ev e).andThen k) Q) :
    tOpd c o σ H (fun v H1 => ∃ x e1 Hf1, ER c.T c.K ⟨σ, e1, H1, Hf1⟩ ∧ Ext c.L ⟨σ, e, H, Hf⟩ ⟨σ, e1, H1, Hf1⟩ ∧ OR c.K ⟨σ, e1, H1, Hf1⟩ o v x ∧ Post c rel ⟨σ, e1, H1, Hf1⟩ (k x e1) Q) := by
  cases o with
  | nm i =>
    unfold Opd.ev at q
    cases h : slotD e i with
    | none => simp only [h] at q; exact q.elim
    | some d =>
      simp only [h] at q
      obtain ⟨v, h1, h2⟩ := slotD_ok E h
      exact ⟨v, h1, none, e, Hf, E, Ext.refl, h1, q⟩
  | ex md =>
    refine ⟨e, Hf, E, ?_⟩
    have q' : Post c rel ⟨σ, e, H, Hf⟩ ((md e).andThen fun d e1 => k (some d) e1) Q := by
      unfold Opd.ev at q
      cases h : md e with
      | bad => simp only [h] at q; exact q
      | exc x e1 => simp only [h] at q; exact q
      | ok d e1 => simp only [h] at q; exact q
    refine Post.mono (Post.next m q') fun v H1 w => ?_
    obtain ⟨d, e1, Hf1, E1, X1, r1, q1⟩ := w
    exact ⟨some d, e1, Hf1, E1, X1, ⟨d, rfl, r1⟩, q1⟩

/-! ### operators -/
def OpD (T : Tb) (K : PySem.W.Frag) (L : Nat) (r : R2) (g : D → D → Option Val) : Prop := ∀ (s : DSt) (x y : V) (d e : D) (z : Val) (Q : VK), ER T K s → Db K s x d → Db K s y e → g d e = some z →
  (∀ v H' Hf', ER T K ⟨s.st, s.en, H', Hf'⟩ → Ext L s ⟨s.st, s.en, H', Hf'⟩ → VR K s ⟨s.st, s.en, H', Hf'⟩ v z → Q v H') → r x y s.hp Q
def mOpt (z : Option Val) : DM Val := fun e => match z with
  | some v => .ok v e
  | none => .bad
def mOp (g : D → D → Option Val) (a b : Opd) : DM Val := fun e => (a.ev e).andThen fun x e1 => (b.ev e1).andThen fun y e2 => match a.now x e2, b.now y e2 with
  | some d, some d' => mOpt (g d d') e2
  | _, _ => .bad
theorem tOpd_mono {c : Cc} {o : Opd} {σ : L2.St} {H : Hp} {Q Q' : VK} (h : tOpd c o σ H Q) (hq : ∀ v H, Q v H → Q' v H) : tOpd c o σ H Q' := by
  cases o with
  | nm i =>
    obtain ⟨v, h1, h2⟩ := h
    exact ⟨v, h1, hq _ _ h2⟩
  | ex m =>
    obtain ⟨e, Hf, E, q⟩ := h
    exact ⟨e, Hf, E, q.mono hq⟩
theorem rd_op {c : Cc} {r : R2} {g : D → D → Option Val} (h : OpD c.T c.K c.L r g) {a b : Opd} {σ : L2.St} {H : Hp} {Q : VK} (q : tR c (rV c) (mOp g a b) σ H Q) : tOp r (tOpd c a) (tOpd c b) σ H Q := by
  obtain ⟨e, Hf, E, q⟩ := q
  refine tOpd_mono (opd_step mono_rV E q) fun v H1 w => ?_
  obtain ⟨x, e1, Hf1, E1, X1, r1, q1⟩ := w
  refine tOpd_mono (opd_step mono_rV E1 q1) fun u H2 w2 => ?_
  obtain ⟨y, e2, Hf2, E2, X2, r2, q2⟩ := w2
  have r1' := OR.keep X2 rfl r1
  cases ha : a.now x e2 with
  | none => simp only [ha] at q2; exact q2.elim
  | some d =>
    cases hb : b.now y e2 with
    | none => simp only [ha, hb] at q2; exact q2.elim
    | some d' =>
      simp only [ha, hb] at q2
      unfold mOpt at q2
      cases hz : g d d' with
      | none => rw [hz] at q2; exact q2.elim
      | some z =>
        rw [hz] at q2
        exact h ⟨σ, e2, H2, Hf2⟩ v u d d' z Q E2 (OR.now E2 r1' ha) (OR.now E2 r2 hb) hz fun v H' Hf' E' X' r' => q2 v H' Hf' E' X' r'
/-- what an operand's expression does -/
def DO (X : Cx) (c : Cc) (e : Expr) (o : Opd) : Prop := PE X e (tOpd c o)
theorem de_op {X : Cx} {c : Cc} {op : Operator} {r : R2} {g : D → D → Option Val} {a b : Expr} {oa ob : Opd} {pos : Pos} (ho : OpR X (binaryOp op) r) (h : OpD c.T c.K c.L r g) (ha : DO X c a oa) (hb : DO X c b ob) : DE X c (.BinOp a op b pos) (mOp g oa ob) :=
  peImp (pe_op ho ha hb) fun _ _ _ q => rd_op h q
theorem OpD.or {K : PySem.W.Frag} {L : Nat} {r r' : R2} {g g' : D → D → Option Val} (h : OpD T K L r g) (h' : OpD T K L r' g') : OpD T K L (fun x y H Q => r x y H Q ∨ r' x y H Q) (fun d e => match g d e with | some z => some z | none => g' d e) := by
  intro s x y d e z Q E rx ry hz q
  cases hg : g d e with
  | some w =>
    have e' : w = z := by
      simp only [hg] at hz
      exact Option.some.inj hz
    subst e'
    exact .inl (h s x y d e w Q E rx ry hg q)
  | none =>
    simp only [hg] at hz
    exact .inr (h' s x y d e z Q E rx ry hz q)
/-- a rule on ints, of a value that is scalar -/
def gI (C : Int → Int → Bool) (g : Int → Int → D) : D → D → Option Val := fun d e => match d, e with
  | .int i, .int j => if C i j then some (.fz (g i j)) else none
  | _, _ => none
theorem op_gI {K : PySem.W.Frag} {L : Nat} {C : Int → Int → Prop} {Cb : Int → Int → Bool} {gv : Int → Int → V} {gd : Int → Int → D} (hC : ∀ i j, Cb i j = true → C i j) (hg : ∀ i j H, Dr K H (gv i j) (gd i j)) : OpD T K L (rI C gv) (gI Cb gd) := by
  intro s x y d e z Q E rx ry hz q
  cases rx <;> cases ry <;> try (cases hz; done)
  rename_i i j
  unfold gI at hz
  by_cases hc : Cb i j = true
  · simp only [hc, if_true] at hz
    cases hz
    exact ⟨i, j, rfl, rfl, hC i j hc, q _ _ _ E Ext.refl (hg i j _)⟩
  · simp only [hc] at hz
    cases hz
theorem op_gI0 {K : PySem.W.Frag} {L : Nat} {gv : Int → Int → V} {gd : Int → Int → D} (hg : ∀ i j H, Dr K H (gv i j) (gd i j)) : OpD T K L (rI0 gv) (gI (fun _ _ => true) gd) := by
  intro s x y d e z Q E rx ry hz q
  cases rx <;> cases ry <;> try (cases hz; done)
  rename_i i j
  unfold gI at hz
  simp only [if_true] at hz
  cases hz
  exact ⟨i, j, rfl, rfl, q _ _ _ E Ext.refl (hg i j _)⟩
/-- lists, texts put together -/
def gCatL : D → D → Option Val := fun d e => match d, e with
  | .list a, .list b => if a.length + b.length ≤ 1000000 then some (.ow (a ++ b)) else none
  | _, _ => none
theorem line_le {n : Nat} (h : n ≤ 1000000) : n ≤ sizeLine := by
  rw [sizeLine_eq]; omega
theorem op_gCatL {K : PySem.W.Frag} {L : Nat} : OpD T K L rCat gCatL := by
  intro s x y d e z Q E rx ry hz q
  cases rx <;> cases ry <;> try (cases hz; done)
  rename_i a xs ds h1 h2 b ys es h3 h4
  unfold gCatL at hz
  by_cases hc : ds.length + es.length ≤ 1000000
  · simp only [hc, if_true] at hz
    cases hz
    refine ⟨a, b, xs, ys, rfl, rfl, h1, h3, line_le (by rw [DrA.len h2, DrA.len h4]; exact hc), fun p hp => ?_⟩
    obtain ⟨E2, X2, f2⟩ := E.laid (L := L) (.lst (xs ++ ys)) hp
    exact q _ _ _ E2 X2 ⟨p, _, rfl, upd_same, DrA.app h2 h4, f2, frn_of hp⟩
  · simp only [hc] at hz
    cases hz
def gCatS : D → D → Option Val := fun d e => match d, e with
  | .str a, .str b => if a.length + b.length ≤ 1000000 then some (.fz (.str (a ++ b))) else none
  | _, _ => none
theorem op_gCatS {K : PySem.W.Frag} {L : Nat} : OpD T K L (fun x y H Q => ∃ i j, x = .str i ∧ y = .str j ∧ i.length + j.length ≤ sizeLine ∧ Q (.str (i ++ j)) H) gCatS := by
  intro s x y d e z Q E rx ry hz q
  cases rx <;> cases ry <;> try (cases hz; done)
  rename_i a b
  unfold gCatS at hz
  by_cases hc : a.length + b.length ≤ 1000000
  · simp only [hc, if_true] at hz
    cases hz
    exact ⟨a, b, rfl, rfl, line_le hc, q _ _ _ E Ext.refl (.str _)⟩
  · simp only [hc] at hz
    cases hz
def gCatT : D → D → Option Val := fun d e => match d, e with
  | .tuple a, .tuple b => if a ≠ [] ∧ a.length + b.length ≤ 1000000 then some (.fz (.tuple (a ++ b))) else none
  | _, _ => none
theorem ne_nil_of {K : PySem.W.Frag} {H : Hp} {xs : List V} {ds : List D} (h : DrA K H xs ds) (e : ds ≠ []) : xs ≠ [] := fun z => by
  subst z
  cases h
  exact e rfl
theorem op_gCatT {K : PySem.W.Frag} {L : Nat} : OpD T K L (rCatT K) gCatT := by
  intro s x y d e z Q E rx ry hz q
  cases rx <;> cases ry <;> try (cases hz; done)
  rename_i a xs ds h1 h2 b ys es h3 h4
  unfold gCatT at hz
  by_cases hc : ds ≠ [] ∧ ds.length + es.length ≤ 1000000
  · dsimp only at hz
    rw [if_pos hc] at hz
    cases hz
    refine ⟨a, b, xs, ys, rfl, rfl, sameT E.sub h1, sameT E.sub h3, ne_nil_of h2 hc.1, line_le (by rw [DrA.len h2, DrA.len h4]; exact hc.2), fun z => ?_, fun _ p hp => ?_⟩
    · subst z
      cases h4
      rw [List.append_nil] at q
      exact q _ _ _ E Ext.refl (.tup h1 h2)
    · obtain ⟨E2, X2, sm⟩ := E.newFz (L := L) (.tup (xs ++ ys)) hp
      exact q _ _ _ E2 X2 (.tup (SqT.of upd_same) (DrA.same sm (DrA.app h2 h4)))
  · dsimp only at hz
    rw [if_neg hc] at hz
    cases hz
/-- xs * k -/
def gRep : D → D → Option Val := fun d e => match d, e with
  | .list a, .int k => if 0 ≤ k ∧ k ≤ 1000 ∧ a.length ≤ 1000 then some (.ow (List.replicate k.toNat a).flatten) else none
  | _, _ => none
theorem DrA.rep {K : PySem.W.Frag} {H : Hp} {xs : List V} {ds : List D} (h : DrA K H xs ds) : ∀ n : Nat, DrA K H (List.replicate n xs).flatten (List.replicate n ds).flatten
  | 0 => .nil
  | n + 1 => by
    rw [List.replicate_succ, List.replicate_succ, List.flatten_cons, List.flatten_cons]
    exact DrA.app h (DrA.rep h n)
theorem op_gRep {K : PySem.W.Frag} {L : Nat} : OpD T K L rRep gRep := by
  intro s x y d e z Q E rx ry hz q
  cases rx <;> cases ry <;> try (cases hz; done)
  rename_i a xs ds h1 h2 k
  unfold gRep at hz
  by_cases hc : 0 ≤ k ∧ k ≤ 1000 ∧ ds.length ≤ 1000
  · dsimp only at hz
    rw [if_pos hc] at hz
    cases hz
    refine ⟨a, k, xs, rfl, rfl, h1, by omega, by omega, line_le ?_, fun p hp => ?_⟩
    · rw [DrA.len h2]
      have := Nat.mul_le_mul (show ds.length ≤ 1000 from hc.2.2) (show k.toNat ≤ 1000 by omega)
      omega
    · obtain ⟨E2, X2, f2⟩ := E.laid (L := L) (.lst (List.replicate k.toNat xs).flatten) hp
      exact q _ _ _ E2 X2 ⟨p, _, rfl, upd_same, DrA.rep h2 _, f2, frn_of hp⟩
  · dsimp only at hz
    rw [if_neg hc] at hz
    cases hz
end DL

/-! DL2: defs by deep contracts, their calls. -/
namespace DL
open PySem PySem.Spec PyProof.Rows L2
variable {T : Tb}

/-- as the layer's FnOk, where nothing is being shown (no guard stands) -/
structure FnG (P : Program) (w : World) (K : PySem.W.Frag) (mg : Str → Option Value) (base : Heap) (k : Nat) (f : Addr) (fd : FuncData) (ps : List Str) (sp : Sp) : Prop where
  len : ∀ vs H Q E, sp vs H Q E → vs.length = ps.length
  go : ∀ (A : Around) (outer : List PySem.Env) (s : Shared) (H : Hp) (args : Args) (us : List Value) (vs : List V) (Q : VK) (E : XK), A.guards = some [] → Room k A → Env0 P w K mg base A outer s H → BindsTo s fd args (ps.zip us) → Vals vs us → sp vs H Q E →
    codeAny (model P w) A (.call (.ref f) args) (CR (L2.CX P w) outer P w H s Q E) s
theorem FnG.mono {P : Program} {w : World} {K : PySem.W.Frag} {mg : Str → Option Value} {base : Heap} {j k : Nat} {f : Addr} {fd : FuncData} {ps : List Str} {sp : Sp} (F : FnG P w K mg base j f fd ps sp) (h : j ≤ k) : FnG P w K mg base k f fd ps sp :=
  ⟨F.len, fun A outer s H args us vs Q E hg hr => F.go A outer s H args us vs Q E hg (hr.mono h)⟩

section
variable {X : Cx} {k : Nat} {f : Addr} {fd : FuncData} {ps ks : List Str} {sp : Sp} {x : Str} {p pos : Pos} {e : Expr} {es : List Expr} {t tk : TA} {W : WX}
theorem runG {pins : List (Addr × Obj)} {σ : L2.St} {H : Hp} {s : Shared} {Q : VK} {us ws : List Value} {kw : List (Str × Value)} {vs : List V} (F : FnG X.prog X.w X.K X.mg X.base k f fd ps sp) (hg : X.A.guards = some []) (hr : Room k X.A) (tw : Takes X W)
    (hb : BindsTo s fd ⟨us, kw⟩ (ps.zip ws)) (I : Inv X pins σ H s) (r : Vals vs ws) (h : sp vs H Q (WE W σ)) : wpAny (model X.prog X.w) X.A (call (.ref f) us kw) (EP X pins σ Q) X.xe s := by
  refine wpAny_call (codeAny_mono (F.go X.A X.stack s H ⟨us, kw⟩ ws vs Q (WE W σ) hg hr I.env0 hb r h) fun q s' hq => ?_)
  cases q with
  | error ev => exact passAt tw σ pins H s ev s' I hq
  | ok fl =>
    cases fl with
    | ret u => exact I.after hq
    | next => exact False.elim hq
    | brk => exact False.elim hq
    | cont => exact False.elim hq
def tCallG (sp : Sp) (W : WX) (t : TA) : TE := fun σ H Q => t σ H fun vs H1 => sp vs H1 Q (WE W σ)
theorem peCallG (F : FnG X.prog X.w X.K X.mg X.base k f fd ps sp) (hgu : X.A.guards = some []) (hr : Room k X.A) (hg : Gl X x) (hm : X.mg x = some (.ref f)) (hk : PySem.W.keepIn X.K (.ref f) = true) (hb : Binds X.K fd ps []) (tw : Takes X W)
    (ha : PA X (e :: es) t) (hdb : (x == ("__debug__" : Str)) = false) (he : starEach (e :: es) X.env = (false, eval e X.env) :: starEach es X.env) (hpl : (backTo pos (starEach es X.env)).any (·.1) = false) :
    PE X (.Call (.Name x p) (e :: es) [] pos) (tCallG sp W t) := by
  refine ⟨fun pins s σ H Q I h => wpAny_Call_Name_kw (ld_glob I hg hm ?_ hdb)⟩
  refine PySem.W.callWith_K (h₀ := X.base) I.ok.mod.kin hk (thn (ha.run pos pins s σ H _ I h) fun us s1 ⟨vs, H1, I1, r, q⟩ => ⟨I1.kIn, ?_⟩) he hpl
  have hl : us.length = ps.length := by rw [← r.length]; exact F.len _ _ _ _ q
  have b := hb s1 us I1.kIn (by rw [List.append_nil]; exact hl)
  rw [List.append_nil] at b
  exact runG F hgu hr tw b I1 r q
theorem peCallG0 (F : FnG X.prog X.w X.K X.mg X.base k f fd ps sp) (hgu : X.A.guards = some []) (hr : Room k X.A) (hg : Gl X x) (hm : X.mg x = some (.ref f)) (hk : PySem.W.keepIn X.K (.ref f) = true) (hb : Binds X.K fd ps []) (tw : Takes X W)
    (hdb : (x == ("__debug__" : Str)) = false) : PE X (.Call (.Name x p) [] [] pos) (tCallG sp W tNil) := by
  refine ⟨fun pins s σ H Q I h => wpAny_Call_Name_kw (ld_glob I hg hm ?_ hdb)⟩
  have hl : ([] : List V).length = ps.length := F.len _ _ _ _ h
  have b := hb s [] I.kIn (by rw [List.append_nil]; exact hl)
  rw [List.append_nil] at b
  exact PySem.W.callWith_K0 I.kIn hk (runG (us := []) (ws := []) F hgu hr tw b I .nil h)
end

/-! ### what is passed -/
inductive Pas where
  | sl (i : Nat)
  | fz (d : D)
  | ow (ds : List D)
/-- the arguments as they lie; an owned one only at the end -/
inductive ArgsR (K : PySem.W.Frag) (s0 s1 : DSt) : List V → List Pas → Prop
  | nil : ArgsR K s0 s1 [] []
  | sl {v : V} {i : Nat} {vs : List V} {ps : List Pas} : s1.st[i]? = some (some v) → ArgsR K s0 s1 vs ps → ArgsR K s0 s1 (v :: vs) (.sl i :: ps)
  | fz {v : V} {d : D} {vs : List V} {ps : List Pas} : Dr K s1.fr v d → ArgsR K s0 s1 vs ps → ArgsR K s0 s1 (v :: vs) (.fz d :: ps)
  | ow {v : V} {ds : List D} : VR K s0 s1 v (.ow ds) → ArgsR K s0 s1 [v] [.ow ds]
def rP (c : Cc) : DSt → DSt → List V → List Pas → Prop := fun s s' vs ps => ArgsR c.K s s' vs ps
theorem mono_rP {c : Cc} {L : Nat} : Mono L (rP c) := fun s s1 s2 b a X h => by
  have h' : ArgsR c.K s1 s2 b a := h
  show ArgsR c.K s s2 b a
  induction h' with
  | nil => exact .nil
  | sl h1 _ ih => exact .sl h1 (ih (by assumption))
  | fz h1 _ ih => exact .fz h1 (ih (by assumption))
  | ow h1 => exact .ow (mono_rV (c := c) (L := L) _ _ _ _ _ X h1)
theorem ArgsR.len {K : PySem.W.Frag} {s0 s1 : DSt} : ∀ {vs : List V} {ps : List Pas}, ArgsR K s0 s1 vs ps → vs.length = ps.length
  | _, _, .nil => rfl
  | _, _, .sl _ r => congrArg (· + 1) (ArgsR.len r)
  | _, _, .fz _ r => congrArg (· + 1) (ArgsR.len r)
  | _, _, .ow _ => rfl
theorem ArgsR.keep {K : PySem.W.Frag} {L : Nat} {s0 s1 s2 : DSt} (e : s2.st = s1.st) (X : Ext L s1 s2) : ∀ {vs : List V} {ps : List Pas}, ArgsR K s0 s1 vs ps → ArgsR K s0 s2 vs ps
  | _, _, .nil => .nil
  | _, _, .sl h r => .sl (by rw [e]; exact h) (ArgsR.keep e X r)
  | _, _, .fz h r => .fz (Dr.same X.keep h) (ArgsR.keep e X r)
  | _, _, .ow h => .ow (by
    obtain ⟨a, xs, h1, h2, h3, h4, h5⟩ := h
    obtain ⟨f1, e1⟩ := X.frn a h4
    exact ⟨a, xs, h1, e1.trans h2, DrA.same X.keep h3, f1, h5⟩)
inductive Ar where
  | sl (i : Nat)
  | ex (m : DM D)
  | own (m : DM Val)
def mArgs : List Ar → DM (List Pas)
  | [] => fun e => .ok [] e
  | .sl i :: r => fun e => (mArgs r e).andThen fun ps e1 => .ok (.sl i :: ps) e1
  | .ex m :: r => fun e => (m e).andThen fun d e1 => (mArgs r e1).andThen fun ps e2 => .ok (.fz d :: ps) e2
  | .own m :: r => fun e => match r with
    | [] => (m e).andThen fun v e1 => match v with
      | .fz d => .ok [.fz d] e1
      | .ow ds => .ok [.ow ds] e1
    | _ => .bad
/-- what each argument's expression does -/
inductive ArgE (X : Cx) (c : Cc) : Expr → Ar → Prop
  | sl {x : Str} {i : Nat} {pos : Pos} : PE X (.Name x pos) (tVar i) → ArgE X c (.Name x pos) (.sl i)
  | ex {e : Expr} {m : DM D} : DD X c e m → ArgE X c e (.ex m)
  | own {e : Expr} {m : DM Val} : DE X c e m → ArgE X c e (.own m)
/-- a slot is there as long as its frame -/
theorem slot_some {K : PySem.W.Frag} {s : DSt} (E : ER T K s) {i : Nat} (h : ∀ cl, s.en[i]? = some cl → cl ≠ .no) (hi : i < s.en.length) : ∃ v, s.st[i]? = some (some v) := by
  have e := List.getElem?_eq_getElem hi
  cases q : s.en[i] with
  | no => exact absurd q (h _ e)
  | fz d =>
    rw [q] at e
    obtain ⟨v, h1, _⟩ := E.fz i d e
    exact ⟨v, h1⟩
  | ow ds =>
    rw [q] at e
    obtain ⟨a, xs, h1, _⟩ := E.ow i ds e
    exact ⟨_, h1⟩
theorem pa_args {X : Cx} {c : Cc} : ∀ {es : List Expr} {l : List Ar}, Paired (ArgE X c) es l → (∀ e ∈ es, ∀ r : List Expr, starEach (e :: r) X.env = (false, eval e X.env) :: starEach r X.env) →
    PA X es (fun σ H Q => (∀ i, Ar.sl i ∈ l → ∃ v, σ[i]? = some (some v)) ∧ tR c (rP c) (mArgs l) σ H Q)
  | _, _, .nil, _ => paImp pa_nil fun σ H Q q => by
    obtain ⟨_, e, Hf, E, q⟩ := q
    exact q [] H Hf E Ext.refl .nil
  | e :: es, a :: l, .cons h r, hs => by
    have ih := pa_args r (fun e he => hs e (List.mem_cons_of_mem _ he))
    have h1 := hs e (List.mem_cons_self ..) es
    cases h with
    | sl hv =>
      refine paImp (pa_cons hv ih h1) fun σ H Q q => ?_
      obtain ⟨q0, en, Hf, E, q⟩ := q
      obtain ⟨v, hv1⟩ := q0 _ (List.mem_cons_self ..)
      refine ⟨v, hv1, fun i hi => q0 i (List.mem_cons_of_mem _ hi), en, Hf, E, ?_⟩
      refine Post.mono (Post.bind (rel := rP c) (show Post c (rP c) _ ((mArgs _ en).andThen fun ps e1 => .ok (.sl _ :: ps) e1) Q from q)) fun vs H1 w => ?_
      obtain ⟨ps, e1, Hf1, E1, X1, r1, q1⟩ := w
      exact q1 _ _ _ E1 X1 (.sl hv1 r1)
    | ex hd =>
      refine paImp (pa_cons hd ih h1) fun σ H Q q => ?_
      obtain ⟨q0, en, Hf, E, q⟩ := q
      refine ⟨en, Hf, E, Post.mono (Post.next mono_rP q) fun v H1 w => ?_⟩
      obtain ⟨d, e1, Hf1, E1, X1, r1, q1⟩ := w
      refine ⟨fun i hi => q0 i (List.mem_cons_of_mem _ hi), e1, Hf1, E1, Post.mono (Post.bind (rel := rP c) q1) fun vs H2 w2 => ?_⟩
      obtain ⟨ps, e2, Hf2, E2, X2, r2, q2⟩ := w2
      exact q2 _ _ _ E2 X2 (.fz (Dr.same X2.keep r1) r2)
    | own hd =>
      cases r with
      | cons g r =>
        refine paImp (pa_cons hd ih h1) fun σ H Q q => ?_
        obtain ⟨q0, en, Hf, E, q⟩ := q
        exact q.elim
      | nil =>
        refine paImp (pa_cons hd pa_nil h1) fun σ H Q q => ?_
        obtain ⟨q0, en, Hf, E, q⟩ := q
        refine ⟨en, Hf, E, Post.mono (Post.bind (rel := rV c) q) fun v H1 w => ?_⟩
        obtain ⟨a, e1, Hf1, E1, X1, r1, q1⟩ := w
        cases a with
        | fz d => exact q1 _ _ _ E1 X1 (.fz r1 .nil)
        | ow ds => exact q1 _ _ _ E1 X1 (.ow r1)

/-! ### the call itself -/
/-- a def by its contract: the parameters, the level, what it does with the parameters' cells -/
structure Fn where
  ps : List Str
  lv : Nat
  lend : List Bool
  ks : List (List Str)
  sem : DM Val
def spG (T : Tb) (K : PySem.W.Frag) (mg : Str → Option Value) (m : DM Val) : Sp := fun vs H Q E => ∃ cs Hf, ER T K ⟨vs.map some, cs, H, Hf⟩ ∧ Post ⟨T, K, mg, 0, fun C d _ H => E C d H⟩ (rV ⟨T, K, mg, 0, fun C d _ H => E C d H⟩) ⟨vs.map some, cs, H, Hf⟩ (m cs) Q
/-- the cells that are handed -/
def cellOf (e : DEnv) : Pas → Option Cell
  | .sl i => match e[i]? with
    | some .no => none
    | o => o
  | .fz d => some (.fz d)
  | .ow ds => some (.ow ds)
def cellsOf (e : DEnv) : List Pas → Option DEnv
  | [] => some []
  | p :: r => match cellOf e p, cellsOf e r with
    | some a, some l => some (a :: l)
    | _, _ => none
/-- the slots whose own lists are handed -/
def lentOf (e : DEnv) : List Pas → List Nat
  | [] => []
  | .sl i :: r => match e[i]? with
    | some (.ow _) => i :: lentOf e r
    | _ => lentOf e r
  | _ :: r => lentOf e r
/-- they come back -/
def backTo' (e : DEnv) : List Pas → DEnv → DEnv
  | .sl i :: r, o :: os => match e[i]? with
    | some (.ow _) => (backTo' e r os).set i o
    | _ => backTo' e r os
  | _ :: r, _ :: os => backTo' e r os
  | _, _ => e
def callF (sem : DM Val) (ps : List Pas) : DM Val := fun e => match cellsOf e ps with
  | none => .bad
  | some cs => if (lentOf e ps).Nodup then match sem cs with
      | .ok v os => if os.length = cs.length then .ok v (backTo' e ps os) else .bad
      | .exc x os => if os.length = cs.length then .exc x (backTo' e ps os) else .bad
      | .bad => .bad
    else .bad
theorem cellsOf_get {e : DEnv} : ∀ {ps : List Pas} {cs : DEnv}, cellsOf e ps = some cs → ∀ (k : Nat), cs[k]? = (ps[k]?).bind (cellOf e) ∧ cs.length = ps.length
  | [], cs, h, k => by
    cases h
    simp
  | p :: r, cs, h, k => by
    unfold cellsOf at h
    cases h1 : cellOf e p with
    | none => simp only [h1] at h; cases h
    | some a =>
      cases h2 : cellsOf e r with
      | none => simp only [h1, h2] at h; cases h
      | some l =>
        simp only [h1, h2] at h
        cases h
        cases k with
        | zero => exact ⟨by simp [h1], by simp [(cellsOf_get h2 0).2]⟩
        | succ k => exact ⟨by simpa using (cellsOf_get h2 k).1, by simp [(cellsOf_get h2 0).2]⟩
theorem mem_lent {e : DEnv} {i : Nat} : ∀ {ps : List Pas}, i ∈ lentOf e ps → ∃ (k : Nat) (ds : List D), ps[k]? = some (.sl i) ∧ e[i]? = some (.ow ds)
  | [], h => by cases h
  | .sl j :: r, h => by
    unfold lentOf at h
    cases q : e[j]? with
    | none =>
      simp only [q] at h
      obtain ⟨k, ds, h1, h2⟩ := mem_lent h
      exact ⟨k + 1, ds, by simpa using h1, h2⟩
    | some c =>
      cases c with
      | ow es =>
        simp only [q] at h
        rcases List.mem_cons.mp h with z | z
        · subst z
          exact ⟨0, es, by simp, q⟩
        · obtain ⟨k, ds, h1, h2⟩ := mem_lent z
          exact ⟨k + 1, ds, by simpa using h1, h2⟩
      | no =>
        simp only [q] at h
        obtain ⟨k, ds, h1, h2⟩ := mem_lent h
        exact ⟨k + 1, ds, by simpa using h1, h2⟩
      | fz d =>
        simp only [q] at h
        obtain ⟨k, ds, h1, h2⟩ := mem_lent h
        exact ⟨k + 1, ds, by simpa using h1, h2⟩
  | .fz d :: r, h => by
    obtain ⟨k, ds, h1, h2⟩ := mem_lent (ps := r) h
    exact ⟨k + 1, ds, by simpa using h1, h2⟩
  | .ow d :: r, h => by
    obtain ⟨k, ds, h1, h2⟩ := mem_lent (ps := r) h
    exact ⟨k + 1, ds, by simpa using h1, h2⟩
/-- what stands in a slot behind it: what came back, or what stood there -/
theorem back_get {e : DEnv} : ∀ {ps : List Pas} {os : DEnv}, os.length = ps.length → (lentOf e ps).Nodup → ∀ (j : Nat), j < e.length →
    (∃ (k : Nat) (ds : List D), ps[k]? = some (.sl j) ∧ e[j]? = some (.ow ds) ∧ (backTo' e ps os)[j]? = os[k]? ∧ k < os.length) ∨ (j ∉ lentOf e ps ∧ (backTo' e ps os)[j]? = e[j]?)
  | [], os, hl, hn, j, hj => .inr ⟨by simp [lentOf], by simp [backTo']⟩
  | p :: r, [], hl, hn, j, hj => by simp at hl
  | p :: r, o :: os, hl, hn, j, hj => by
    have hl' : os.length = r.length := by simpa using hl
    have skip : backTo' e (p :: r) (o :: os) = backTo' e r os → lentOf e (p :: r) = lentOf e r →
        (∃ (k : Nat) (ds : List D), (p :: r)[k]? = some (.sl j) ∧ e[j]? = some (.ow ds) ∧ (backTo' e (p :: r) (o :: os))[j]? = (o :: os)[k]? ∧ k < (o :: os).length) ∨ (j ∉ lentOf e (p :: r) ∧ (backTo' e (p :: r) (o :: os))[j]? = e[j]?) := fun b l => by
      rw [l] at hn
      rcases back_get hl' hn j hj with ⟨k, ds, h1, h2, h3, h4⟩ | ⟨h1, h2⟩
      · exact .inl ⟨k + 1, ds, by simpa using h1, h2, by rw [b]; simpa using h3, by simpa using h4⟩
      · exact .inr ⟨by rw [l]; exact h1, by rw [b]; exact h2⟩
    cases p with
    | fz d => exact skip (by simp [backTo']) (by simp [lentOf])
    | ow d => exact skip (by simp [backTo']) (by simp [lentOf])
    | sl i =>
      cases q : e[i]? with
      | none => exact skip (by simp [backTo', q]) (by simp [lentOf, q])
      | some c =>
        cases c with
        | no => exact skip (by simp [backTo', q]) (by simp [lentOf, q])
        | fz d => exact skip (by simp [backTo', q]) (by simp [lentOf, q])
        | ow es =>
          have b : backTo' e (.sl i :: r) (o :: os) = (backTo' e r os).set i o := by simp [backTo', q]
          have l : lentOf e (.sl i :: r) = i :: lentOf e r := by simp [lentOf, q]
          rw [l] at hn
          obtain ⟨n1, n2⟩ := List.nodup_cons.mp hn
          have hlen : ∀ (ps : List Pas) (os : DEnv), (backTo' e ps os).length = e.length := by
            intro ps
            induction ps with
            | nil => intro os; simp [backTo']
            | cons p r ih =>
              intro os
              cases os with
              | nil => cases p <;> simp [backTo']
              | cons o os =>
                cases p with
                | fz d => simp [backTo', ih]
                | ow d => simp [backTo', ih]
                | sl i =>
                  simp only [backTo']
                  split
                  · rw [List.length_set]; exact ih os
                  · exact ih os
          by_cases hij : i = j
          · subst hij
            refine .inl ⟨0, es, by simp, q, ?_, by simp⟩
            rw [b, List.getElem?_set_self (by rw [hlen]; exact hj)]
            simp
          · rcases back_get hl' n2 j hj with ⟨k, ds, h1, h2, h3, h4⟩ | ⟨h1, h2⟩
            · exact .inl ⟨k + 1, ds, by simpa using h1, h2, by rw [b, List.getElem?_set_ne hij]; simpa using h3, by simpa using h4⟩
            · refine .inr ⟨by rw [l]; intro z; rcases List.mem_cons.mp z with z | z; exact hij z.symm; exact h1 z, by rw [b, List.getElem?_set_ne hij]; exact h2⟩
theorem back_len (e : DEnv) : ∀ (ps : List Pas) (os : DEnv), (backTo' e ps os).length = e.length := by
  intro ps
  induction ps with
  | nil => intro os; simp [backTo']
  | cons p r ih =>
    intro os
    cases os with
    | nil => cases p <;> simp [backTo']
    | cons o os =>
      cases p with
      | fz d => simp [backTo', ih]
      | ow d => simp [backTo', ih]
      | sl i =>
        simp only [backTo']
        split
        · rw [List.length_set]; exact ih os
        · exact ih os
end DL

/-! DL3: a def's call, from the caller's side. -/
namespace DL
open PySem PySem.Spec PyProof.Rows L2
variable {T : Tb}

theorem ArgsR.get {K : PySem.W.Frag} {s0 s1 : DSt} : ∀ {vs : List V} {ps : List Pas} {k : Nat} {p : Pas}, ArgsR K s0 s1 vs ps → ps[k]? = some p → ∃ v, vs[k]? = some v ∧
    (match p with | .sl i => s1.st[i]? = some (some v) | .fz d => Dr K s1.fr v d | .ow ds => VR K s0 s1 v (.ow ds) ∧ k + 1 = ps.length)
  | _, _, _, _, .nil, e => by simp at e
  | _, _, 0, _, .sl h _, e => by simp at e; subst e; exact ⟨_, rfl, h⟩
  | _, _, 0, _, .fz h _, e => by simp at e; subst e; exact ⟨_, rfl, h⟩
  | _, _, 0, _, .ow h, e => by simp at e; subst e; exact ⟨_, rfl, h, rfl⟩
  | _, _, k + 1, p, .sl _ r, e => by
    obtain ⟨v, h1, h2⟩ := ArgsR.get (k := k) (p := p) r (by simpa using e)
    refine ⟨v, by simpa using h1, ?_⟩
    cases p with
    | ow ds => exact ⟨h2.1, by simpa using h2.2⟩
    | sl i => exact h2
    | fz d => exact h2
  | _, _, k + 1, p, .fz _ r, e => by
    obtain ⟨v, h1, h2⟩ := ArgsR.get (k := k) (p := p) r (by simpa using e)
    refine ⟨v, by simpa using h1, ?_⟩
    cases p with
    | ow ds => exact ⟨h2.1, by simpa using h2.2⟩
    | sl i => exact h2
    | fz d => exact h2
  | _, _, k + 1, p, .ow _, e => by simp at e
theorem lent_mem {e : DEnv} {i : Nat} {ds : List D} (h : e[i]? = some (.ow ds)) : ∀ {ps : List Pas} {k : Nat}, ps[k]? = some (.sl i) → i ∈ lentOf e ps
  | [], k, h1 => by simp at h1
  | p :: r, 0, h1 => by
    simp at h1
    subst h1
    simp [lentOf, h]
  | p :: r, k + 1, h1 => by
    have ih := lent_mem h (ps := r) (k := k) (by simpa using h1)
    cases p with
    | fz d => simpa [lentOf] using ih
    | ow d => simpa [lentOf] using ih
    | sl j =>
      unfold lentOf
      split
      · exact List.mem_cons_of_mem _ ih
      · exact ih
theorem lent_tail {e : DEnv} {p : Pas} {r : List Pas} (h : (lentOf e (p :: r)).Nodup) : (lentOf e r).Nodup := by
  cases p with
  | fz d => simpa [lentOf] using h
  | ow d => simpa [lentOf] using h
  | sl j =>
    unfold lentOf at h
    split at h
    · exact (List.nodup_cons.mp h).2
    · exact h
theorem lent_inj {e : DEnv} {i : Nat} {ds : List D} (h : e[i]? = some (.ow ds)) : ∀ {ps : List Pas} {j k : Nat}, (lentOf e ps).Nodup → ps[j]? = some (.sl i) → ps[k]? = some (.sl i) → j = k
  | [], j, k, _, h1, _ => by simp at h1
  | p :: r, 0, 0, _, _, _ => rfl
  | p :: r, 0, k + 1, n, h1, h2 => by
    simp at h1
    subst h1
    have m := lent_mem h (ps := r) (k := k) (by simpa using h2)
    simp only [lentOf, h] at n
    exact absurd m (List.nodup_cons.mp n).1
  | p :: r, j + 1, 0, n, h1, h2 => by
    simp at h2
    subst h2
    have m := lent_mem h (ps := r) (k := j) (by simpa using h1)
    simp only [lentOf, h] at n
    exact absurd m (List.nodup_cons.mp n).1
  | p :: r, j + 1, k + 1, n, h1, h2 => congrArg (· + 1) (lent_inj h (lent_tail n) (by simpa using h1) (by simpa using h2))
/-- a handed cell that is an own list -/
theorem cell_ow {K : PySem.W.Frag} {s0 s1 : DSt} {vs : List V} {ps : List Pas} {cs : DEnv} (A : ArgsR K s0 s1 vs ps) (hc : cellsOf s1.en ps = some cs) {k : Nat} {ds : List D} (h : cs[k]? = some (.ow ds)) :
    (∃ (i : Nat), ps[k]? = some (.sl i) ∧ s1.en[i]? = some (.ow ds) ∧ ∃ v, vs[k]? = some v ∧ s1.st[i]? = some (some v)) ∨ (ps[k]? = some (.ow ds) ∧ k + 1 = ps.length ∧ ∃ v, vs[k]? = some v ∧ VR K s0 s1 v (.ow ds)) := by
  obtain ⟨h1, h2⟩ := cellsOf_get hc k
  rw [h] at h1
  cases hp : ps[k]? with
  | none => rw [hp] at h1; cases h1
  | some p =>
    rw [hp] at h1
    obtain ⟨v, g1, g2⟩ := A.get hp
    cases p with
    | fz d => simp [cellOf] at h1
    | sl i =>
      have h1' : (match s1.en[i]? with | some .no => none | o => o) = some (Cell.ow ds) := h1.symm
      cases q : s1.en[i]? with
      | none => rw [q] at h1'; cases h1'
      | some c =>
        rw [q] at h1'
        cases c with
        | no => cases h1'
        | fz d => cases h1'
        | ow es =>
          cases h1'
          exact .inl ⟨i, rfl, q, v, g1, g2⟩
    | ow es =>
      simp [cellOf] at h1
      subst h1
      exact .inr ⟨rfl, g2.2, v, g1, g2.1⟩
theorem cell_fz {K : PySem.W.Frag} {s0 s1 : DSt} {vs : List V} {ps : List Pas} {cs : DEnv} (E : ER T K s1) (A : ArgsR K s0 s1 vs ps) (hc : cellsOf s1.en ps = some cs) {k : Nat} {d : D} (h : cs[k]? = some (.fz d)) :
    ∃ v, vs[k]? = some v ∧ Dr K s1.fr v d := by
  obtain ⟨h1, h2⟩ := cellsOf_get hc k
  rw [h] at h1
  cases hp : ps[k]? with
  | none => rw [hp] at h1; cases h1
  | some p =>
    rw [hp] at h1
    obtain ⟨v, g1, g2⟩ := A.get hp
    cases p with
    | ow d => simp [cellOf] at h1
    | fz d' =>
      simp [cellOf] at h1
      subst h1
      exact ⟨v, g1, g2⟩
    | sl i =>
      have h1' : (match s1.en[i]? with | some .no => none | o => o) = some (Cell.fz d) := h1.symm
      cases q : s1.en[i]? with
      | none => rw [q] at h1'; cases h1'
      | some c =>
        rw [q] at h1'
        cases c with
        | no => cases h1'
        | ow d => cases h1'
        | fz d' =>
          cases h1'
          obtain ⟨v', r1, r2⟩ := E.fz i d q
          have g2' : s1.st[i]? = some (some v) := g2
          rw [r1] at g2'
          cases g2'
          exact ⟨v, g1, r2⟩
theorem map_some {vs : List V} {k : Nat} {v : V} : (vs.map some)[k]? = some (some v) ↔ vs[k]? = some v := by
  rw [List.getElem?_map]
  cases vs[k]? with
  | none => simp
  | some u => simp
section
variable {c : Cc} {s0 s1 : DSt} {vs : List V} {ps : List Pas} {cs os : DEnv} {H' Hf' : Hp}
/-- the callee's own things ahead of it -/
theorem own_start (A : ArgsR c.K s0 s1 vs ps) (hc : cellsOf s1.en ps = some cs) {b : Addr} (o : Own ⟨vs.map some, cs, s1.hp, s1.fr⟩ b) : (∃ (k i : Nat) (ds : List D), ps[k]? = some (Pas.sl i) ∧ s1.en[i]? = some (.ow ds) ∧ s1.st[i]? = some (some (.ref b)) ∧ vs[k]? = some (.ref b)) ∨ (Frn s1 b ∧ ¬ Frn s0 b) := by
  obtain ⟨k, ds, h1, h2⟩ := o
  have h2' : vs[k]? = some (V.ref b) := map_some.mp h2
  rcases cell_ow A hc h1 with ⟨i, g1, g2, v, g3, g4⟩ | ⟨g1, _, v, g3, a, xs, g4, g5, g6, g7, g8⟩
  · rw [h2'] at g3
    cases g3
    exact .inl ⟨k, i, ds, g1, g2, g4, h2'⟩
  · rw [h2'] at g3
    cases g3
    cases g4
    exact .inr ⟨g7, g8⟩
theorem start_ok (E : ER c.T c.K s1) (A : ArgsR c.K s0 s1 vs ps) (hc : cellsOf s1.en ps = some cs) (hn : (lentOf s1.en ps).Nodup) : ER c.T c.K ⟨vs.map some, cs, s1.hp, s1.fr⟩ := by
  refine ⟨by rw [List.length_map, (cellsOf_get hc 0).2, A.len], E.sub, fun k d h => ?_, fun k ds h => ?_, fun j k ds es a h1 h2 h3 h4 => ?_, E.tb⟩
  · obtain ⟨v, g1, g2⟩ := cell_fz E A hc h
    exact ⟨v, map_some.mpr g1, g2⟩
  · rcases cell_ow A hc h with ⟨i, g1, g2, v, g3, g4⟩ | ⟨g1, _, v, g3, a, xs, g4, g5, g6, g7, g8⟩
    · obtain ⟨a, xs, r1, r2, r3, r4⟩ := E.ow i ds g2
      rw [r1] at g4
      cases g4
      exact ⟨a, xs, map_some.mpr g3, r2, r3, r4⟩
    · subst g4
      exact ⟨a, xs, map_some.mpr g3, g5, g7.2.1, g6⟩
  · have h3' : vs[j]? = some (V.ref a) := map_some.mp h3
    have h4' : vs[k]? = some (V.ref a) := map_some.mp h4
    rcases cell_ow A hc h1 with ⟨i, g1, g2, v, g3, g4⟩ | ⟨g1, l1, v, g3, b, xs, g4, g5, g6, g7, g8⟩ <;> rcases cell_ow A hc h2 with ⟨i', r1, r2, v', r3, r4⟩ | ⟨r1, l2, v', r3, b', xs', r4, r5, r6, r7, r8⟩
    · rw [h3'] at g3; cases g3
      rw [h4'] at r3; cases r3
      have e := E.inj i i' ds es a g2 r2 g4 r4
      subst e
      exact lent_inj g2 hn g1 r1
    · rw [h3'] at g3; cases g3
      rw [h4'] at r3; cases r3
      cases r4
      exact absurd ⟨i, ds, g2, g4⟩ r7.2.2
    · rw [h3'] at g3; cases g3
      rw [h4'] at r3; cases r3
      cases g4
      exact absurd ⟨i', es, r2, r4⟩ g7.2.2
    · omega
/-- what nobody of both owns -/
theorem frn_start (X : Ext c.L s0 s1) (A : ArgsR c.K s0 s1 vs ps) (hc : cellsOf s1.en ps = some cs) {a : Addr} (f : Frn s0 a) : Frn ⟨vs.map some, cs, s1.hp, s1.fr⟩ a ∧ s1.hp a = s0.hp a := by
  obtain ⟨⟨f1, f2, f3⟩, e⟩ := X.frn a f
  refine ⟨⟨f1, f2, fun o => ?_⟩, e⟩
  rcases own_start A hc o with ⟨k, i, ds, g1, g2, g3, g4⟩ | ⟨g1, g2⟩
  · exact f3 ⟨i, ds, g2, g3⟩
  · exact g2 f
/-- the caller's own thing that is not handed -/
theorem kept_own (E : ER c.T c.K s1) (A : ArgsR c.K s0 s1 vs ps) (hc : cellsOf s1.en ps = some cs) {i : Nat} {ds : List D} {a : Addr} (h1 : s1.en[i]? = some (.ow ds)) (h2 : s1.st[i]? = some (some (.ref a))) (hi : i ∉ lentOf s1.en ps) :
    Frn ⟨vs.map some, cs, s1.hp, s1.fr⟩ a := by
  obtain ⟨b, xs, r1, r2, r3, r4⟩ := E.ow i ds h1
  rw [h2] at r1
  cases r1
  refine ⟨.of (u := .lst xs) r2 (fun _ z => by cases z), r3, fun o => ?_⟩
  rcases own_start A hc o with ⟨k, j, es, g1, g2, g3, g4⟩ | ⟨g1, g2⟩
  · have e := E.inj i j ds es a h1 g2 h2 g3
    subst e
    exact hi (lent_mem g2 g1)
  · exact g1.2.2 ⟨i, ds, h1, h2⟩
theorem back_ok (E : ER c.T c.K s1) (X : Ext c.L s0 s1) (e0 : s1.st = s0.st) (A : ArgsR c.K s0 s1 vs ps) (hc : cellsOf s1.en ps = some cs) (hn : (lentOf s1.en ps).Nodup) (hl : os.length = cs.length)
    (E2 : ER c.T c.K ⟨vs.map some, os, H', Hf'⟩) (X2 : Ext 0 ⟨vs.map some, cs, s1.hp, s1.fr⟩ ⟨vs.map some, os, H', Hf'⟩) :
    ER c.T c.K ⟨s1.st, backTo' s1.en ps os, H', Hf'⟩ ∧ Ext c.L s0 ⟨s1.st, backTo' s1.en ps os, H', Hf'⟩ ∧
      ∀ a, Frn ⟨vs.map some, os, H', Hf'⟩ a → ¬ Frn ⟨vs.map some, cs, s1.hp, s1.fr⟩ a → Frn ⟨s1.st, backTo' s1.en ps os, H', Hf'⟩ a ∧ ¬ Frn s0 a := by
  have hlp : os.length = ps.length := hl.trans (cellsOf_get hc 0).2
  have what : ∀ (j : Nat) (cl : Cell), (backTo' s1.en ps os)[j]? = some cl → (∃ (k : Nat) (ds : List D) (v : V), ps[k]? = some (.sl j) ∧ s1.en[j]? = some (.ow ds) ∧ os[k]? = some cl ∧ vs[k]? = some v ∧ s1.st[j]? = some (some v)) ∨ (j ∉ lentOf s1.en ps ∧ s1.en[j]? = some cl) := fun j cl h => by
    have hj : j < s1.en.length := by
      have := (List.getElem?_eq_some_iff.mp h).1
      rwa [back_len] at this
    rcases back_get hlp hn j hj with ⟨k, ds, h1, h2, h3, h4⟩ | ⟨h1, h2⟩
    · obtain ⟨v, g1, g2⟩ := A.get h1
      exact .inl ⟨k, ds, v, h1, h2, by rw [← h3]; exact h, g1, g2⟩
    · exact .inr ⟨h1, by rw [← h2]; exact h⟩
  -- what the caller owns behind it
  have ownB : ∀ a, Own ⟨s1.st, backTo' s1.en ps os, H', Hf'⟩ a → Own ⟨vs.map some, os, H', Hf'⟩ a ∨ ∃ (i : Nat) (ds : List D), s1.en[i]? = some (.ow ds) ∧ s1.st[i]? = some (some (.ref a)) ∧ i ∉ lentOf s1.en ps := fun a ⟨j, ds, h1, h2⟩ => by
    rcases what j _ h1 with ⟨k, es, v, g1, g2, g3, g4, g5⟩ | ⟨g1, g2⟩
    · have h2' : s1.st[j]? = some (some (.ref a)) := h2
      rw [g5] at h2'
      cases h2'
      exact .inl ⟨k, ds, g3, map_some.mpr g4⟩
    · exact .inr ⟨j, ds, g2, h2, g1⟩
  have FB : ∀ a, Frn ⟨vs.map some, os, H', Hf'⟩ a → (∀ (i : Nat) (ds : List D), s1.en[i]? = some (Cell.ow ds) → s1.st[i]? = some (some (.ref a)) → i ∉ lentOf s1.en ps → False) → Frn ⟨s1.st, backTo' s1.en ps os, H', Hf'⟩ a := fun a f no => by
    refine ⟨f.1, f.2.1, fun o => ?_⟩
    rcases ownB a o with z | ⟨i, ds, z1, z2, z3⟩
    · exact f.2.2 z
    · exact no i ds z1 z2 z3
  refine ⟨⟨?_, E2.sub, fun j d h => ?_, fun j ds h => ?_, fun j k ds es a h1 h2 h3 h4 => ?_, E2.tb⟩, ⟨X.keep.trans X2.keep, fun a f => ?_, fun i hi => by rw [show (DSt.mk s1.st (backTo' s1.en ps os) H' Hf').st = s1.st from rfl, e0]⟩, fun a f nf => ?_⟩
  · show (backTo' s1.en ps os).length = s1.st.length
    rw [back_len]
    exact E.len
  · rcases what j _ h with ⟨k, es, v, g1, g2, g3, g4, g5⟩ | ⟨g1, g2⟩
    · obtain ⟨v', r1, r2⟩ := E2.fz k d g3
      have r1' : vs[k]? = some v' := map_some.mp r1
      rw [g4] at r1'
      cases r1'
      exact ⟨v, g5, r2⟩
    · obtain ⟨v, r1, r2⟩ := E.fz j d g2
      exact ⟨v, r1, r2.same X2.keep⟩
  · rcases what j _ h with ⟨k, es, v, g1, g2, g3, g4, g5⟩ | ⟨g1, g2⟩
    · obtain ⟨a, xs, r1, r2, r3, r4⟩ := E2.ow k ds g3
      have r1' : vs[k]? = some (.ref a) := map_some.mp r1
      rw [g4] at r1'
      cases r1'
      exact ⟨a, xs, g5, r2, r3, r4⟩
    · obtain ⟨a, xs, r1, r2, r3, r4⟩ := E.ow j ds g2
      obtain ⟨f, e⟩ := X2.frn a (kept_own E A hc g2 r1 g1)
      exact ⟨a, xs, r1, e.trans r2, f.2.1, r4.same X2.keep⟩
  · have h3' : s1.st[j]? = some (some (.ref a)) := h3
    have h4' : s1.st[k]? = some (some (.ref a)) := h4
    rcases what j _ h1 with ⟨m, fs, v, g1, g2, g3, g4, g5⟩ | ⟨g1, g2⟩ <;> rcases what k _ h2 with ⟨m', fs', v', r1, r2, r3, r4, r5⟩ | ⟨r1, r2⟩
    · exact E.inj j k fs fs' a g2 r2 h3' h4'
    · exact E.inj j k fs es a g2 r2 h3' h4'
    · exact E.inj j k ds fs' a g2 r2 h3' h4'
    · exact E.inj j k ds es a g2 r2 h3' h4'
  · obtain ⟨fs, e⟩ := frn_start X A hc f
    obtain ⟨f2, e2⟩ := X2.frn a fs
    refine ⟨FB a f2 fun i ds h1 h2 _ => (X.frn a f).1.2.2 ⟨i, ds, h1, h2⟩, e2.trans e⟩
  · exact ⟨FB a f fun i ds h1 h2 h3 => nf (kept_own E A hc h1 h2 h3), fun z => nf (frn_start X A hc z).1⟩
theorem call_post {sem : DM Val} {Q : VK} (E : ER c.T c.K s1) (X : Ext c.L s0 s1) (e0 : s1.st = s0.st) (A : ArgsR c.K s0 s1 vs ps) (q : Post c (rV c) s0 (callF sem ps s1.en) Q) : spG c.T c.K c.mg sem vs s1.hp Q (WE c.W s0.st) := by
  unfold callF at q
  cases hc : cellsOf s1.en ps with
  | none => simp only [hc] at q; exact q.elim
  | some cs =>
    simp only [hc] at q
    by_cases hn : (lentOf s1.en ps).Nodup
    · rw [if_pos hn] at q
      refine ⟨cs, s1.fr, start_ok E A hc hn, ?_⟩
      cases hs : sem cs with
      | bad => rw [hs] at q; exact q.elim
      | ok v os =>
        rw [hs] at q
        dsimp only at q
        by_cases hl : os.length = cs.length
        · rw [if_pos hl] at q
          intro v' H' Hf' E2 X2 r2
          obtain ⟨E3, X3, F3⟩ := back_ok E X e0 A hc hn hl E2 X2
          rw [e0] at E3 X3
          refine q v' H' Hf' E3 X3 ?_
          cases v with
          | fz d => exact r2
          | ow ds =>
            obtain ⟨a, xs, h1, h2, h3, h4, h5⟩ := r2
            obtain ⟨f1, f2⟩ := F3 a h4 h5
            rw [e0] at f1
            exact ⟨a, xs, h1, h2, h3, f1, f2⟩
        · rw [if_neg hl] at q; exact q.elim
      | exc x os =>
        rw [hs] at q
        dsimp only at q
        by_cases hl : os.length = cs.length
        · rw [if_pos hl] at q
          intro C dx H' Hf' E2 X2 r2
          obtain ⟨E3, X3, F3⟩ := back_ok E X e0 A hc hn hl E2 X2
          rw [e0] at E3 X3
          exact q C dx H' Hf' E3 X3 r2
        · rw [if_neg hl] at q; exact q.elim
    · rw [if_neg hn] at q; exact q.elim
end
def mCall (sem : DM Val) (l : List Ar) : DM Val := fun e => (mArgs l e).andThen fun ps e1 => callF sem ps e1
/-- the slots that are passed have values -/
def slotsOk (l : List Ar) (e : DEnv) : Bool := l.all fun a => match a with
  | .sl i => match e[i]? with
    | some .no => false
    | none => false
    | _ => true
  | _ => true
def mCall' (sem : DM Val) (l : List Ar) : DM Val := fun e => if slotsOk l e then mCall sem l e else .bad
theorem rd_call {c : Cc} {sem : DM Val} {l : List Ar} {σ : L2.St} {H : Hp} {Q : VK} (q : tR c (rV c) (mCall' sem l) σ H Q) :
    tCallG (spG c.T c.K c.mg sem) c.W (fun σ H Q => (∀ i, Ar.sl i ∈ l → ∃ v, σ[i]? = some (some v)) ∧ tR c (rP c) (mArgs l) σ H Q) σ H Q := by
  obtain ⟨e, Hf, E, q⟩ := q
  unfold mCall' at q
  cases hs : slotsOk l e with
  | false => rw [hs] at q; exact q.elim
  | true =>
    rw [hs] at q
    refine ⟨fun i hi => ?_, e, Hf, E, ?_⟩
    · have h := List.all_eq_true.mp hs _ hi
      dsimp only at h
      cases hc : e[i]? with
      | none => rw [hc] at h; cases h
      | some cl =>
        rw [hc] at h
        cases cl with
        | no => cases h
        | fz d =>
          obtain ⟨v, h1, _⟩ := E.fz i d hc
          exact ⟨v, h1⟩
        | ow ds =>
          obtain ⟨a, xs, h1, _⟩ := E.ow i ds hc
          exact ⟨_, h1⟩
    · refine Post.mono (Post.bind (rel := rP c) (show Post c (rV c) _ ((mArgs l e).andThen fun ps e1 => callF sem ps e1) Q from q)) fun vs H1 w => ?_
      obtain ⟨ps, e1, Hf1, E1, X1, r1, q1⟩ := w
      exact call_post (s0 := ⟨σ, e, H, Hf⟩) (s1 := ⟨σ, e1, H1, Hf1⟩) E1 X1 rfl r1 q1
end DL

/-! DL4: comparisons, tests, subscripts, built-in functions, by deep values. -/
namespace DL
open PySem PySem.Spec PyProof.Rows L2
variable {T : Tb}

/-! ### values that are truth values -/
def BT (c : Cc) (m : DM Bool) (t : TE) : Prop := ∀ σ H (Q : Bool → Hp → Prop), tR c rB m σ H Q → t σ H (fun v H' => ∃ b, v = .bl b ∧ Q b H')
def mBV (m : DM Bool) : DM Val := fun e => (m e).andThen fun b e1 => .ok (.fz (.bool b)) e1
def mToB (m : DM Val) : DM Bool := fun e => (m e).andThen fun v e1 => match v with
  | .fz (.bool b) => .ok b e1
  | _ => .bad
theorem de_of_bt {X : Cx} {c : Cc} {e : Expr} {m : DM Bool} {t : TE} (h : PE X e t) (b : BT c m t) : DE X c e (mBV m) := by
  refine ⟨fun pins s σ H Q I q => ?_⟩
  obtain ⟨en, Hf, E, q⟩ := q
  have q' : tR c rB m σ H (fun b H' => Q (.bl b) H') := ⟨en, Hf, E, by
    cases hm : m en with
    | bad => unfold mBV at q; rw [hm] at q; exact q
    | exc x e1 => unfold mBV at q; rw [hm] at q; exact q
    | ok d e1 =>
      unfold mBV at q
      rw [hm] at q
      intro b' H' Hf' E' X' r'
      have r2 : b' = d := r'
      subst r2
      exact q _ H' Hf' E' X' (Dr.bl _)⟩
  refine thn (h.run pins s σ H _ I (b σ H _ q')) fun v s1 ⟨x, H1, I1, r1, k, ek, q1⟩ => ?_
  subst ek
  exact ⟨_, H1, I1, r1, q1⟩
theorem dt_of_bt {X : Cx} {c : Cc} {e : Expr} {m : DM Bool} {t : TE} (h : PT X e (tB t)) (b : BT c m t) : DT X c e m := ptImp h fun σ H Q q => b σ H Q q
theorem bt_toB {c : Cc} {m : DM Val} : BT c (mToB m) (tR c (rV c) m) := fun σ H Q q => by
  obtain ⟨en, Hf, E, q⟩ := q
  refine ⟨en, Hf, E, ?_⟩
  refine Post.mono (Post.next (rel := rV c) mono_rB (show Post c rB _ ((m en).andThen _) Q from q)) fun v H1 w => ?_
  obtain ⟨a, e1, Hf1, E1, X1, r1, q1⟩ := w
  cases a with
  | ow ds => exact q1.elim
  | fz d =>
    cases d with
    | bool b =>
      have r2 : Dr c.K Hf1 v (.bool b) := r1
      cases r2
      exact ⟨b, rfl, q1 b H1 Hf1 E1 Ext.refl rfl⟩
    | _ => exact q1.elim

/-! ### comparisons -/
def CmpD (T : Tb) (K : PySem.W.Frag) (r : R2) (g : D → D → Option Bool) : Prop := ∀ (s : DSt) (x y : V) (d e : D) (b : Bool) (Q : VK), ER T K s → Db K s x d → Db K s y e → g d e = some b → Q (.bl b) s.hp → r x y s.hp Q
def mOptB (z : Option Bool) : DM Bool := fun e => match z with
  | some v => .ok v e
  | none => .bad
def mCmp (g : D → D → Option Bool) (a b : Opd) : DM Bool := fun e => (a.ev e).andThen fun x e1 => (b.ev e1).andThen fun y e2 => match a.now x e2, b.now y e2 with
  | some d, some d' => mOptB (g d d') e2
  | _, _ => .bad
theorem bt_cmp {c : Cc} {r : R2} {g : D → D → Option Bool} (h : CmpD c.T c.K r g) {a b : Opd} : BT c (mCmp g a b) (tOp r (tOpd c a) (tOpd c b)) := fun σ H Q q => by
  obtain ⟨e, Hf, E, q⟩ := q
  refine tOpd_mono (opd_step mono_rB E q) fun v H1 w => ?_
  obtain ⟨x, e1, Hf1, E1, X1, r1, q1⟩ := w
  refine tOpd_mono (opd_step mono_rB E1 q1) fun u H2 w2 => ?_
  obtain ⟨y, e2, Hf2, E2, X2, r2, q2⟩ := w2
  have r1' := OR.keep X2 rfl r1
  cases ha : a.now x e2 with
  | none => simp only [ha] at q2; exact q2.elim
  | some d =>
    cases hb : b.now y e2 with
    | none => simp only [ha, hb] at q2; exact q2.elim
    | some d' =>
      simp only [ha, hb] at q2
      unfold mOptB at q2
      cases hz : g d d' with
      | none => rw [hz] at q2; exact q2.elim
      | some z =>
        rw [hz] at q2
        exact h ⟨σ, e2, H2, Hf2⟩ v u d d' z _ E2 (OR.now E2 r1' ha) (OR.now E2 r2 hb) hz ⟨z, rfl, q2 z H2 Hf2 E2 Ext.refl rfl⟩
theorem de_cmp {X : Cx} {c : Cc} {op : CmpOp} {r : R2} {g : D → D → Option Bool} {a b : Expr} {oa ob : Opd} {pos : Pos} (ho : OpR X (compareOp op) r) (h : CmpD c.T c.K r g) (ha : DO X c a oa) (hb : DO X c b ob) (hm : behindInMarks op b = false) : DE X c (.Compare a [op] [b] pos) (mBV (mCmp g oa ob)) :=
  de_of_bt (pe_cmpR ho ha hb hm) (bt_cmp h)
theorem dt_cmp {X : Cx} {c : Cc} {op : CmpOp} {r : R2} {g : D → D → Option Bool} {a b : Expr} {oa ob : Opd} {pos : Pos} (ho : OpR X (compareOp op) r) (h : CmpD c.T c.K r g) (ha : DO X c a oa) (hb : DO X c b ob) (hm : behindInMarks op b = false) : DT X c (.Compare a [op] [b] pos) (mCmp g oa ob) :=
  dt_of_bt (pt_cmpR ho ha hb hm) (bt_cmp h)
theorem CmpD.or {K : PySem.W.Frag} {r r' : R2} {g g' : D → D → Option Bool} (h : CmpD T K r g) (h' : CmpD T K r' g') : CmpD T K (fun x y H Q => r x y H Q ∨ r' x y H Q) (fun d e => match g d e with | some z => some z | none => g' d e) := by
  intro s x y d e z Q E rx ry hz q
  cases hg : g d e with
  | some w =>
    have e' : w = z := by
      simp only [hg] at hz
      exact Option.some.inj hz
    subst e'
    exact .inl (h s x y d e w Q E rx ry hg q)
  | none =>
    simp only [hg] at hz
    exact .inr (h' s x y d e z Q E rx ry hz q)
/-- a op1 b op2 c -/
def mChain (g g' : D → D → Option Bool) (a b d : Opd) : DM Bool := fun e => (a.ev e).andThen fun x e1 => (b.ev e1).andThen fun y e2 => match a.now x e2, b.now y e2 with
  | some u, some v => match g u v with
    | some true => (d.ev e2).andThen fun z e3 => match b.now y e3, d.now z e3 with
      | some v', some w => mOptB (g' v' w) e3
      | _, _ => .bad
    | some false => .ok false e2
    | none => .bad
  | _, _ => .bad
theorem bt_chain {c : Cc} {r r' : R2} {g g' : D → D → Option Bool} (h : CmpD c.T c.K r g) (h' : CmpD c.T c.K r' g') {a b d : Opd} : BT c (mChain g g' a b d) (tChain r r' (tOpd c a) (tOpd c b) (tOpd c d)) := fun σ H Q q => by
  obtain ⟨e, Hf, E, q⟩ := q
  refine tOpd_mono (opd_step mono_rB E q) fun v H1 w => ?_
  obtain ⟨x, e1, Hf1, E1, X1, r1, q1⟩ := w
  refine tOpd_mono (opd_step mono_rB E1 q1) fun u H2 w2 => ?_
  obtain ⟨y, e2, Hf2, E2, X2, r2, q2⟩ := w2
  have r1' := OR.keep X2 rfl r1
  cases ha : a.now x e2 with
  | none => simp only [ha] at q2; exact q2.elim
  | some dd =>
    cases hb : b.now y e2 with
    | none => simp only [ha, hb] at q2; exact q2.elim
    | some dd' =>
      simp only [ha, hb] at q2
      cases hz : g dd dd' with
      | none => simp only [hz] at q2; exact q2.elim
      | some z =>
        simp only [hz] at q2
        refine h ⟨σ, e2, H2, Hf2⟩ v u dd dd' z _ E2 (OR.now E2 r1' ha) (OR.now E2 r2 hb) hz ⟨z, rfl, ?_⟩
        cases z with
        | false =>
          rw [if_neg Bool.false_ne_true]
          exact ⟨false, rfl, q2 false H2 Hf2 E2 Ext.refl rfl⟩
        | true =>
          rw [if_pos rfl]
          refine tOpd_mono (opd_step mono_rB E2 q2) fun u3 H3 w3 => ?_
          obtain ⟨z3, e3, Hf3, E3, X3, r3, q3⟩ := w3
          have r2' := OR.keep X3 rfl r2
          cases hb3 : b.now y e3 with
          | none => simp only [hb3] at q3; exact q3.elim
          | some d4 =>
            cases hd3 : d.now z3 e3 with
            | none => simp only [hb3, hd3] at q3; exact q3.elim
            | some d5 =>
              simp only [hb3, hd3] at q3
              unfold mOptB at q3
              cases hz3 : g' d4 d5 with
              | none => rw [hz3] at q3; exact q3.elim
              | some z5 =>
                rw [hz3] at q3
                exact h' ⟨σ, e3, H3, Hf3⟩ u u3 d4 d5 z5 _ E3 (OR.now E3 r2' hb3) (OR.now E3 r3 hd3) hz3 ⟨z5, rfl, q3 z5 H3 Hf3 E3 Ext.refl rfl⟩
theorem de_chain {X : Cx} {c : Cc} {op op' : CmpOp} {r r' : R2} {g g' : D → D → Option Bool} {a b d : Expr} {oa ob od : Opd} {pos : Pos} (ho : OpR X (compareOp op) r) (ho' : OpR X (compareOp op') r') (h : CmpD c.T c.K r g) (h' : CmpD c.T c.K r' g')
    (ha : DO X c a oa) (hb : DO X c b ob) (hd : DO X c d od) (hm : lastMarks [op, op'] [b, d] = false) : DE X c (.Compare a [op, op'] [b, d] pos) (mBV (mChain g g' oa ob od)) := de_of_bt (pe_chain ho ho' ha hb hd hm) (bt_chain h h')
theorem dt_chain {X : Cx} {c : Cc} {op op' : CmpOp} {r r' : R2} {g g' : D → D → Option Bool} {a b d : Expr} {oa ob od : Opd} {pos : Pos} (ho : OpR X (compareOp op) r) (ho' : OpR X (compareOp op') r') (h : CmpD c.T c.K r g) (h' : CmpD c.T c.K r' g')
    (ha : DO X c a oa) (hb : DO X c b ob) (hd : DO X c d od) (hm : lastMarks [op, op'] [b, d] = false) : DT X c (.Compare a [op, op'] [b, d] pos) (mChain g g' oa ob od) := dt_of_bt (pt_chain ho ho' ha hb hd hm) (bt_chain h h')
/-- the comparisons -/
def gCI (g : Int → Int → Bool) : D → D → Option Bool := fun d e => match d, e with
  | .int i, .int j => some (g i j)
  | _, _ => none
theorem cmp_I {K : PySem.W.Frag} {g : Int → Int → Bool} : CmpD T K (rI0 fun i j => .bl (g i j)) (gCI g) := by
  intro s x y d e b Q E rx ry hz q
  cases rx <;> cases ry <;> try (cases hz; done)
  cases hz
  exact ⟨_, _, rfl, rfl, q⟩
theorem plain_nod : ∀ {d : D}, d.plain = true → nod d = true := by
  have key : ∀ (n : Nat) (d : D), sizeOf d < n → d.plain = true → nod d = true := by
    intro n
    induction n with
    | zero => intro d h; omega
    | succ n ih =>
      intro d h hp
      have all : ∀ xs : List D, (∀ x ∈ xs, sizeOf x < n) → PyData.plainAll xs = true → nod.nodA xs = true := by
        intro xs
        induction xs with
        | nil => intros; rfl
        | cons x r ihx =>
          intro hs hq
          simp only [PyData.plainAll, Bool.and_eq_true] at hq
          simp only [nod.nodA, Bool.and_eq_true]
          exact ⟨ih x (hs x (List.mem_cons_self ..)) hq.1, ihx (fun y hy => hs y (List.mem_cons_of_mem _ hy)) hq.2⟩
      cases d with
      | list xs =>
        have : ∀ x ∈ xs, sizeOf x < n := fun x hx => by
          have := List.sizeOf_lt_of_mem hx
          simp only [PyData.list.sizeOf_spec] at h
          omega
        simpa [nod] using all xs this (by simpa [PyData.plain] using hp)
      | tuple xs =>
        have : ∀ x ∈ xs, sizeOf x < n := fun x hx => by
          have := List.sizeOf_lt_of_mem hx
          simp only [PyData.tuple.sizeOf_spec] at h
          omega
        simpa [nod] using all xs this (by simpa [PyData.plain] using hp)
      | dict kvs => simp [PyData.plain] at hp
      | _ => rfl
  exact fun {d} h => key (sizeOf d + 1) d (Nat.lt_succ_self _) h
def shal (d : D) : Bool := decide (d.depth ≤ 64)
def gEqP : D → D → Option Bool := fun d e => if d.plain && e.plain && (shal d || shal e) then some (PyData.eqv d e) else none
def rEqP (K : PySem.W.Frag) (neg : Bool) : R2 := fun x y H Q => ∃ d e, Dp K H x d ∧ Dp K H y e ∧ d.plain = true ∧ e.plain = true ∧ min d.depth e.depth ≤ 64 ∧ Q (.bl (if neg then !PyData.eqv d e else PyData.eqv d e)) H
theorem op_eqP {X : Cx} (hu : X.A.units + 64 < cLine) : OpR X (compareOp .Eq) (rEqP X.K false) := by
  intro pins s σ H x y v u Q I rx ry h
  obtain ⟨d, e, hd, he, sd, se, hm, q⟩ := h
  obtain ⟨as, r1⟩ := Dp.reads I d x v hd rx
  obtain ⟨bs, r2⟩ := Dp.reads I e y u he ry
  exact SeqAt.eq_plain r1 r2 sd se (by omega) ⟨.bl _, H, I, rfl, q⟩
theorem op_neP {X : Cx} (hu : X.A.units + 64 < cLine) : OpR X (compareOp .NotEq) (rEqP X.K true) := by
  intro pins s σ H x y v u Q I rx ry h
  obtain ⟨d, e, hd, he, sd, se, hm, q⟩ := h
  obtain ⟨as, r1⟩ := Dp.reads I d x v hd rx
  obtain ⟨bs, r2⟩ := Dp.reads I e y u he ry
  exact SeqAt.ne_plain r1 r2 sd se (by omega) ⟨.bl _, H, I, rfl, q⟩
theorem shal_min {d e : D} (h : (shal d || shal e) = true) : min d.depth e.depth ≤ 64 := by
  rcases (Bool.or_eq_true _ _).mp h with h | h
  · have := of_decide_eq_true h; omega
  · have := of_decide_eq_true h; omega
theorem cmp_eqP {K : PySem.W.Frag} : CmpD T K (rEqP K false) gEqP := by
  intro s x y d e b Q E rx ry hz q
  unfold gEqP at hz
  by_cases hc : (d.plain && e.plain && (shal d || shal e)) = true
  · rw [if_pos hc] at hz
    cases hz
    simp only [Bool.and_eq_true] at hc
    exact ⟨d, e, (Db.hp E rx).dp (plain_nod hc.1.1), (Db.hp E ry).dp (plain_nod hc.1.2), hc.1.1, hc.1.2, shal_min hc.2, q⟩
  · rw [if_neg hc] at hz; cases hz
def gNeP : D → D → Option Bool := fun d e => (gEqP d e).map (!·)
theorem cmp_neP {K : PySem.W.Frag} : CmpD T K (rEqP K true) gNeP := by
  intro s x y d e b Q E rx ry hz q
  unfold gNeP gEqP at hz
  by_cases hc : (d.plain && e.plain && (shal d || shal e)) = true
  · rw [if_pos hc] at hz
    cases hz
    simp only [Bool.and_eq_true] at hc
    exact ⟨d, e, (Db.hp E rx).dp (plain_nod hc.1.1), (Db.hp E ry).dp (plain_nod hc.1.2), hc.1.1, hc.1.2, shal_min hc.2, q⟩
  · rw [if_neg hc] at hz; cases hz
/-- a tuple beside the empty one -/
def gEqN : D → D → Option Bool := fun d e => match d, e with
  | .tuple xs, .tuple [] => some xs.isEmpty
  | _, _ => none
def rEqN (K : PySem.W.Frag) : R2 := fun x y H Q => ∃ a b xs, x = .ref a ∧ y = .ref b ∧ SqT K H a xs ∧ SqT K H b [] ∧ Q (.bl xs.isEmpty) H
theorem op_eqN {X : Cx} (hu : X.A.units + 64 < cLine) : OpR X (compareOp .Eq) (rEqN X.K) := by
  intro pins s σ H x y v u Q I rx ry h
  obtain ⟨a, b, xs, rfl, rfl, ha, hb, q⟩ := h
  cases rx
  cases ry
  obtain ⟨its, r1, p1, _⟩ := I.tuple ha
  obtain ⟨its2, r2, p2, _⟩ := I.tuple hb
  cases r2
  refine PySem.W.eq_tuplesT (n := 0) (e := fun _ => true) (show s.heap.IsTuple a its.toArray from p1) (show s.heap.IsTuple b ([] : List Value).toArray from p2) (fun j h1 h2 => absurd h2 (by simp)) (by omega) ⟨.bl _, H, I, rfl, ?_⟩
  cases r1 with
  | nil => simpa using q
  | cons _ _ => simpa using q
theorem cmp_eqN {K : PySem.W.Frag} : CmpD T K (rEqN K) gEqN := by
  intro s x y d e b Q E rx ry hz q
  cases rx <;> cases ry <;> try (cases hz; done)
  rename_i a xs ds h1 h2 b' ys es h3 h4
  cases h4 with
  | cons _ _ => cases hz
  | nil =>
    cases hz
    refine ⟨a, b', xs, rfl, rfl, sameT E.sub h1, sameT E.sub h3, ?_⟩
    cases h2 with
    | nil => exact q
    | cons _ _ => exact q
/-- x in a list or a tuple -/
def gIn : D → D → Option Bool := fun d e => match e with
  | .list xs => if d.plain && PyData.plainAll xs && (shal d || shal e) then some (xs.any fun y => PyData.eqv y d) else none
  | .tuple xs => if d.plain && PyData.plainAll xs && (shal d || shal e) then some (xs.any fun y => PyData.eqv y d) else none
  | _ => none
def rInP (K : PySem.W.Frag) (neg : Bool) : R2 := fun x y H Q => ∃ d e xs, Dp K H x d ∧ Dp K H y e ∧ (e = .list xs ∨ e = .tuple xs) ∧ d.plain = true ∧ PyData.plainAll xs = true ∧ min (PyData.depthAll xs) d.depth ≤ 64 ∧
  Q (.bl (if neg then !(xs.any fun y => PyData.eqv y d) else xs.any fun y => PyData.eqv y d)) H
theorem op_inP {X : Cx} (hu : X.A.units + 66 < cLine) : OpR X (compareOp .In) (rInP X.K false) := by
  intro pins s σ H x y v u Q I rx ry h
  obtain ⟨d, e, xs, hd, he, hk, sd, se, hm, q⟩ := h
  obtain ⟨as, r1⟩ := Dp.reads I d x v hd rx
  obtain ⟨bs, r2⟩ := Dp.reads I e y u he ry
  rcases hk with rfl | rfl
  · exact SeqAt.in_list_data r2 r1 se sd (by omega) ⟨.bl _, H, I, rfl, q⟩
  · exact SeqAt.in_tuple_data r2 r1 se sd (by omega) ⟨.bl _, H, I, rfl, q⟩
theorem op_notInP {X : Cx} (hu : X.A.units + 66 < cLine) : OpR X (compareOp .NotIn) (rInP X.K true) := by
  intro pins s σ H x y v u Q I rx ry h
  obtain ⟨d, e, xs, hd, he, hk, sd, se, hm, q⟩ := h
  obtain ⟨as, r1⟩ := Dp.reads I d x v hd rx
  obtain ⟨bs, r2⟩ := Dp.reads I e y u he ry
  rcases hk with rfl | rfl
  · exact SeqAt.notIn_list_data r2 r1 se sd (by omega) ⟨.bl _, H, I, rfl, q⟩
  · exact SeqAt.notIn_tuple_data r2 r1 se sd (by omega) ⟨.bl _, H, I, rfl, q⟩
theorem depth_list {xs : List D} : (PyData.list xs).depth = PyData.depthAll xs + 1 := by simp [PyData.depth]
theorem depth_tuple {xs : List D} : (PyData.tuple xs).depth = PyData.depthAll xs + 1 := by simp [PyData.depth]
theorem cmp_inP {K : PySem.W.Frag} : CmpD T K (rInP K false) gIn := by
  intro s x y d e b Q E rx ry hz q
  unfold gIn at hz
  cases e with
  | list xs =>
    dsimp only at hz
    by_cases hc : (d.plain && PyData.plainAll xs && (shal d || shal (.list xs))) = true
    · rw [if_pos hc] at hz
      cases hz
      simp only [Bool.and_eq_true] at hc
      have hm := shal_min hc.2
      rw [depth_list] at hm
      exact ⟨d, _, xs, (Db.hp E rx).dp (plain_nod hc.1.1), (Db.hp E ry).dp (plain_nod (by simpa [PyData.plain] using hc.1.2)), .inl rfl, hc.1.1, hc.1.2, by omega, q⟩
    · rw [if_neg hc] at hz; cases hz
  | tuple xs =>
    dsimp only at hz
    by_cases hc : (d.plain && PyData.plainAll xs && (shal d || shal (.tuple xs))) = true
    · rw [if_pos hc] at hz
      cases hz
      simp only [Bool.and_eq_true] at hc
      have hm := shal_min hc.2
      rw [depth_tuple] at hm
      exact ⟨d, _, xs, (Db.hp E rx).dp (plain_nod hc.1.1), (Db.hp E ry).dp (plain_nod (by simpa [PyData.plain] using hc.1.2)), .inr rfl, hc.1.1, hc.1.2, by omega, q⟩
    · rw [if_neg hc] at hz; cases hz
  | _ => cases hz
def gNotIn : D → D → Option Bool := fun d e => (gIn d e).map (!·)
theorem cmp_notInP {K : PySem.W.Frag} : CmpD T K (rInP K true) gNotIn := by
  intro s x y d e b Q E rx ry hz q
  unfold gNotIn gIn at hz
  cases e with
  | list xs =>
    dsimp only at hz
    by_cases hc : (d.plain && PyData.plainAll xs && (shal d || shal (.list xs))) = true
    · rw [if_pos hc] at hz
      cases hz
      simp only [Bool.and_eq_true] at hc
      have hm := shal_min hc.2
      rw [depth_list] at hm
      exact ⟨d, _, xs, (Db.hp E rx).dp (plain_nod hc.1.1), (Db.hp E ry).dp (plain_nod (by simpa [PyData.plain] using hc.1.2)), .inl rfl, hc.1.1, hc.1.2, by omega, q⟩
    · rw [if_neg hc] at hz; cases hz
  | tuple xs =>
    dsimp only at hz
    by_cases hc : (d.plain && PyData.plainAll xs && (shal d || shal (.tuple xs))) = true
    · rw [if_pos hc] at hz
      cases hz
      simp only [Bool.and_eq_true] at hc
      have hm := shal_min hc.2
      rw [depth_tuple] at hm
      exact ⟨d, _, xs, (Db.hp E rx).dp (plain_nod hc.1.1), (Db.hp E ry).dp (plain_nod (by simpa [PyData.plain] using hc.1.2)), .inr rfl, hc.1.1, hc.1.2, by omega, q⟩
    · rw [if_neg hc] at hz; cases hz
  | _ => cases hz
/-- is None, is not None -/
def gIsN (neg : Bool) : D → D → Option Bool := fun d e => match e with
  | .none => some (match d with | .none => !neg | _ => neg)
  | _ => none
theorem cmp_isN {K : PySem.W.Frag} : CmpD T K (fun x y H Q => y = .non ∧ Q (.bl (decide (x = .non))) H) (gIsN false) := by
  intro s x y d e b Q E rx ry hz q
  cases ry <;> try (cases hz; done)
  refine ⟨rfl, ?_⟩
  cases rx <;> (cases hz; exact q)
theorem cmp_notN {K : PySem.W.Frag} : CmpD T K (fun x y H Q => y = .non ∧ Q (.bl (!decide (x = .non))) H) (gIsN true) := by
  intro s x y d e b Q E rx ry hz q
  cases ry <;> try (cases hz; done)
  refine ⟨rfl, ?_⟩
  cases rx <;> (cases hz; exact q)
end DL

/-! DL5: and, or, not, if, truth, subscripts, slices, built-in functions, by deep values. -/
namespace DL
open PySem PySem.Spec PyProof.Rows L2
variable {T : Tb}

/-! ### and, or, not, if -/
def mAnd (a b : DM Bool) : DM Bool := fun e => (a e).andThen fun k e1 => if k = true then b e1 else .ok false e1
def mOr (a b : DM Bool) : DM Bool := fun e => (a e).andThen fun k e1 => if k = true then .ok true e1 else b e1
def mNot (a : DM Bool) : DM Bool := fun e => (a e).andThen fun k e1 => .ok (!k) e1
def mIf {α : Type} (t : DM Bool) (a b : DM α) : DM α := fun e => (t e).andThen fun k e1 => if k = true then a e1 else b e1
def DW (X : Cx) (c : Cc) (e : Expr) (m : DM Bool) : Prop := PW X e (tR c rB m)
theorem rd_and {c : Cc} {a b : DM Bool} {σ : L2.St} {H : Hp} {Q : Bool → Hp → Prop} (q : tR c rB (mAnd a b) σ H Q) : tAnd (tR c rB a) (tR c rB b) σ H Q := by
  obtain ⟨e, Hf, E, q⟩ := q
  refine ⟨e, Hf, E, Post.mono (Post.next (rel := rB) mono_rB q) fun k H1 w => ?_⟩
  obtain ⟨k', e1, Hf1, E1, X1, r1, q1⟩ := w
  cases (show k = k' from r1)
  cases k with
  | true => exact ⟨e1, Hf1, E1, q1⟩
  | false => exact q1 false H1 Hf1 E1 Ext.refl rfl
theorem rd_or {c : Cc} {a b : DM Bool} {σ : L2.St} {H : Hp} {Q : Bool → Hp → Prop} (q : tR c rB (mOr a b) σ H Q) : tOr (tR c rB a) (tR c rB b) σ H Q := by
  obtain ⟨e, Hf, E, q⟩ := q
  refine ⟨e, Hf, E, Post.mono (Post.next (rel := rB) mono_rB q) fun k H1 w => ?_⟩
  obtain ⟨k', e1, Hf1, E1, X1, r1, q1⟩ := w
  cases (show k = k' from r1)
  cases k with
  | true => exact q1 true H1 Hf1 E1 Ext.refl rfl
  | false => exact ⟨e1, Hf1, E1, q1⟩
theorem dt_not {X : Cx} {c : Cc} {a : Expr} {m : DM Bool} {pos : Pos} (h : DT X c a m) : DT X c (.UnaryOp .Not a pos) (mNot m) := ptImp (pt_not h) fun σ H Q q => by
  obtain ⟨e, Hf, E, q⟩ := q
  refine ⟨e, Hf, E, Post.mono (Post.next (rel := rB) mono_rB q) fun k H1 w => ?_⟩
  obtain ⟨k', e1, Hf1, E1, X1, r1, q1⟩ := w
  cases (show k = k' from r1)
  exact q1 _ H1 Hf1 E1 Ext.refl rfl
theorem dw_one_and {X : Cx} {c : Cc} {a : Expr} {m : DM Bool} {pos : Pos} (h : DT X c a m) : DW X c (.BoolOp .And [a] pos) m := pw_and1 h
theorem dw_one_or {X : Cx} {c : Cc} {a : Expr} {m : DM Bool} {pos : Pos} (h : DT X c a m) : DW X c (.BoolOp .Or [a] pos) m := pw_or1 h
theorem dw_and {X : Cx} {c : Cc} {a b : Expr} {r : List Expr} {m n : DM Bool} {pos : Pos} (h : DT X c a m) (g : DW X c (.BoolOp .And (b :: r) pos) n) : DW X c (.BoolOp .And (a :: b :: r) pos) (mAnd m n) := pwImp (pw_and h g) fun _ _ _ q => rd_and q
theorem dw_or {X : Cx} {c : Cc} {a b : Expr} {r : List Expr} {m n : DM Bool} {pos : Pos} (h : DT X c a m) (g : DW X c (.BoolOp .Or (b :: r) pos) n) : DW X c (.BoolOp .Or (a :: b :: r) pos) (mOr m n) := pwImp (pw_or h g) fun _ _ _ q => rd_or q
theorem dt_of_dw {X : Cx} {c : Cc} {e : Expr} {m : DM Bool} (h : DW X c e m) : DT X c e m := PW.pt h
/-- .. as values -/
def mAndV (a : DM Bool) (b : DM Val) : DM Val := fun e => (a e).andThen fun k e1 => if k = true then b e1 else .ok (.fz (.bool false)) e1
def mOrV (a : DM Bool) (b : DM Val) : DM Val := fun e => (a e).andThen fun k e1 => if k = true then .ok (.fz (.bool true)) e1 else b e1
def mNotV (a : DM Bool) : DM Val := mBV (mNot a)
/-- a truth value's run, into a reading of values -/
theorem bool_step {c : Cc} {α β : Type} {rel : DSt → DSt → β → α → Prop} {m : DM Val} {σ : L2.St} {e : DEnv} {H Hf : Hp} {k : Bool → DM α} {Q : β → Hp → Prop} (mo : Mono c.L rel) (E : ER c.T c.K ⟨σ, e, H, Hf⟩) (q : Post c rel ⟨σ, e, H, Hf⟩ ((mToB m e).andThen k) Q) :
    tR c (rV c) m σ H (fun v H1 => ∃ b, v = .bl b ∧ ∃ e1 Hf1, ER c.T c.K ⟨σ, e1, H1, Hf1⟩ ∧ Ext c.L ⟨σ, e, H, Hf⟩ ⟨σ, e1, H1, Hf1⟩ ∧ Post c rel ⟨σ, e1, H1, Hf1⟩ (k b e1) Q) := by
  have h : tR c rB (mToB m) σ H (fun b H1 => ∃ e1 Hf1, ER c.T c.K ⟨σ, e1, H1, Hf1⟩ ∧ Ext c.L ⟨σ, e, H, Hf⟩ ⟨σ, e1, H1, Hf1⟩ ∧ Post c rel ⟨σ, e1, H1, Hf1⟩ (k b e1) Q) := by
    refine ⟨e, Hf, E, Post.mono (Post.next (rel := rB) mo q) fun b H1 w => ?_⟩
    obtain ⟨b', e1, Hf1, E1, X1, r1, q1⟩ := w
    cases (show b = b' from r1)
    exact ⟨e1, Hf1, E1, X1, q1⟩
  exact bt_toB σ H _ h
theorem rd_andV {c : Cc} {a b : DM Val} {σ : L2.St} {H : Hp} {Q : VK} (q : tR c (rV c) (mAndV (mToB a) b) σ H Q) : tAndV (tR c (rV c) a) (tR c (rV c) b) σ H Q := by
  obtain ⟨e, Hf, E, q⟩ := q
  have h := bool_step mono_rV E q
  obtain ⟨e0, Hf0, E0, h⟩ := h
  refine ⟨e0, Hf0, E0, h.mono fun v H1 w => ?_⟩
  obtain ⟨k, ek, e1, Hf1, E1, X1, q1⟩ := w
  refine ⟨k, ek, ?_⟩
  cases k with
  | true => exact ⟨e1, Hf1, E1, q1⟩
  | false => exact q1 _ H1 Hf1 E1 Ext.refl (Dr.bl false)
theorem rd_orV {c : Cc} {a b : DM Val} {σ : L2.St} {H : Hp} {Q : VK} (q : tR c (rV c) (mOrV (mToB a) b) σ H Q) : tOrV (tR c (rV c) a) (tR c (rV c) b) σ H Q := by
  obtain ⟨e, Hf, E, q⟩ := q
  have h := bool_step mono_rV E q
  obtain ⟨e0, Hf0, E0, h⟩ := h
  refine ⟨e0, Hf0, E0, h.mono fun v H1 w => ?_⟩
  obtain ⟨k, ek, e1, Hf1, E1, X1, q1⟩ := w
  refine ⟨k, ek, ?_⟩
  cases k with
  | true => exact q1 _ H1 Hf1 E1 Ext.refl (Dr.bl true)
  | false => exact ⟨e1, Hf1, E1, q1⟩
theorem de_one {X : Cx} {c : Cc} {op : BoolOp} {a : Expr} {m : DM Val} {pos : Pos} (h : DE X c a m) : DE X c (.BoolOp op [a] pos) m := pe_one h
theorem de_and {X : Cx} {c : Cc} {a b : Expr} {r : List Expr} {m n : DM Val} {pos : Pos} (h : DE X c a m) (g : DE X c (.BoolOp .And (b :: r) pos) n) : DE X c (.BoolOp .And (a :: b :: r) pos) (mAndV (mToB m) n) := peImp (pe_and h g) fun _ _ _ q => rd_andV q
theorem de_or {X : Cx} {c : Cc} {a b : Expr} {r : List Expr} {m n : DM Val} {pos : Pos} (h : DE X c a m) (g : DE X c (.BoolOp .Or (b :: r) pos) n) : DE X c (.BoolOp .Or (a :: b :: r) pos) (mOrV (mToB m) n) := peImp (pe_or h g) fun _ _ _ q => rd_orV q
theorem de_not {X : Cx} {c : Cc} {a : Expr} {m : DM Val} {pos : Pos} (h : DE X c a m) : DE X c (.UnaryOp .Not a pos) (mNotV (mToB m)) := peImp (pe_not h) fun σ H Q q => by
  obtain ⟨e, Hf, E, q⟩ := q
  have q' : Post c (rV c) ⟨σ, e, H, Hf⟩ ((mToB m e).andThen fun b e1 => .ok (.fz (.bool (!b))) e1) Q := by
    unfold mNotV mBV mNot at q
    cases h : mToB m e with
    | bad => rw [h] at q; exact q
    | exc x e1 => rw [h] at q; exact q
    | ok d e1 => rw [h] at q; exact q
  have h := bool_step mono_rV E q'
  obtain ⟨e0, Hf0, E0, h⟩ := h
  refine ⟨e0, Hf0, E0, h.mono fun v H1 w => ?_⟩
  obtain ⟨k, ek, e1, Hf1, E1, X1, q1⟩ := w
  exact ⟨k, ek, q1 _ H1 Hf1 E1 Ext.refl (Dr.bl _)⟩
theorem de_if {X : Cx} {c : Cc} {t a b : Expr} {mt : DM Bool} {m n : DM Val} {pos : Pos} (ht : DT X c t mt) (h : DE X c a m) (g : DE X c b n) : DE X c (.IfExp t a b pos) (mIf mt m n) := peImp (pe_ifExp ht h g) fun σ H Q q => by
  obtain ⟨e, Hf, E, q⟩ := q
  refine ⟨e, Hf, E, Post.mono (Post.next (rel := rB) mono_rV q) fun k H1 w => ?_⟩
  obtain ⟨k', e1, Hf1, E1, X1, r1, q1⟩ := w
  cases (show k = k' from r1)
  cases k with
  | true => exact ⟨e1, Hf1, E1, q1⟩
  | false => exact ⟨e1, Hf1, E1, q1⟩

/-! ### truth -/
def gTru : D → Option Bool
  | .none => some false
  | .bool b => some b
  | .int i => some (i != 0)
  | .str x => if x.length ≤ 1000000 then some ((x.length : Int) != 0) else none
  | .list xs => some (!xs.isEmpty)
  | .tuple xs => some (!xs.isEmpty)
  | .dict _ => none
def mTru (o : Opd) : DM Bool := fun e => (o.ev e).andThen fun x e1 => match o.now x e1 with
  | some d => mOptB (gTru d) e1
  | none => .bad
theorem empty_iff {K : PySem.W.Frag} {H : Hp} {xs : List V} {ds : List D} (h : DrA K H xs ds) : xs.isEmpty = ds.isEmpty := by
  cases h <;> rfl
theorem tru_db {K : PySem.W.Frag} {s : DSt} (E : ER T K s) {v : V} {d : D} {k : Bool} (h : Db K s v d) (g : gTru d = some k) : TruV K v s.hp k := by
  cases h with
  | non => cases g; rfl
  | bl b => cases g; rfl
  | int i => cases g; rfl
  | str x =>
    unfold gTru at g
    by_cases hc : x.length ≤ 1000000
    · dsimp only at g
      rw [if_pos hc] at g
      cases g
      exact ⟨line_le hc, rfl⟩
    · dsimp only at g
      rw [if_neg hc] at g
      cases g
  | lst h1 h2 =>
    cases g
    exact .inl ⟨_, SqL.of h1, by rw [empty_iff h2]⟩
  | tup h1 h2 =>
    cases g
    exact .inr (.inl ⟨_, sameT E.sub h1, by rw [empty_iff h2]⟩)
  | dic h1 h2 => cases g
  | scr h1 => cases g
theorem dt_tru {X : Cx} {c : Cc} {e : Expr} {o : Opd} (hK : c.K = X.K) (h : DO X c e o) (he : ∀ whole, isTrue e X.env whole = (do let v ← whole; standAt e.pos; holding [v] (truthy v))) : DT X c e (mTru o) := ptImp (pt_truth h he) fun σ H Q q => by
  obtain ⟨en, Hf, E, q⟩ := q
  refine tOpd_mono (opd_step mono_rB E q) fun v H1 w => ?_
  obtain ⟨x, e1, Hf1, E1, X1, r1, q1⟩ := w
  cases ha : o.now x e1 with
  | none => simp only [ha] at q1; exact q1.elim
  | some d =>
    simp only [ha] at q1
    unfold mOptB at q1
    cases hz : gTru d with
    | none => rw [hz] at q1; exact q1.elim
    | some k =>
      rw [hz] at q1
      exact ⟨k, by rw [← hK]; exact tru_db E1 (OR.now E1 r1 ha) hz, q1 k H1 Hf1 E1 Ext.refl rfl⟩

/-! ### one operand -/
def Op1 (T : Tb) (K : PySem.W.Frag) (L : Nat) (r : V → Hp → VK → Prop) (g : D → Option Val) : Prop := ∀ (s : DSt) (x : V) (d : D) (z : Val) (Q : VK), ER T K s → Db K s x d → g d = some z →
  (∀ v H' Hf', ER T K ⟨s.st, s.en, H', Hf'⟩ → Ext L s ⟨s.st, s.en, H', Hf'⟩ → VR K s ⟨s.st, s.en, H', Hf'⟩ v z → Q v H') → r x s.hp Q
def mOp1 (g : D → Option Val) (o : Opd) : DM Val := fun e => (o.ev e).andThen fun x e1 => match o.now x e1 with
  | some d => mOpt (g d) e1
  | none => .bad
theorem rd_op1 {c : Cc} {r : V → Hp → VK → Prop} {g : D → Option Val} (h : Op1 c.T c.K c.L r g) {o : Opd} {σ : L2.St} {H : Hp} {Q : VK} (q : tR c (rV c) (mOp1 g o) σ H Q) : tOpd c o σ H (fun x H1 => r x H1 Q) := by
  obtain ⟨en, Hf, E, q⟩ := q
  refine tOpd_mono (opd_step mono_rV E q) fun v H1 w => ?_
  obtain ⟨x, e1, Hf1, E1, X1, r1, q1⟩ := w
  cases ha : o.now x e1 with
  | none => simp only [ha] at q1; exact q1.elim
  | some d =>
    simp only [ha] at q1
    unfold mOpt at q1
    cases hz : g d with
    | none => rw [hz] at q1; exact q1.elim
    | some z =>
      rw [hz] at q1
      exact h ⟨σ, e1, H1, Hf1⟩ v d z Q E1 (OR.now E1 r1 ha) hz fun v' H' Hf' E' X' r' => q1 v' H' Hf' E' X' r'
theorem de_un {X : Cx} {c : Cc} {op : UnaryOp} {r : V → Hp → VK → Prop} {g : D → Option Val} {a : Expr} {o : Opd} {pos : Pos} (ho : UnR X (unaryOp op) r) (h : Op1 c.T c.K c.L r g) (ha : DO X c a o) : DE X c (.UnaryOp op a pos) (mOp1 g o) := peImp (pe_un ho ha) fun _ _ _ q => rd_op1 h q
def gNeg : D → Option Val := fun d => match d with
  | .int i => some (.fz (.int (-i)))
  | _ => none
theorem op_gNeg {K : PySem.W.Frag} {L : Nat} : Op1 T K L (L2.rU fun i => .int (-i)) gNeg := by
  intro s x d z Q E rx hz q
  cases rx <;> try (cases hz; done)
  cases hz
  exact ⟨_, rfl, q _ _ _ E Ext.refl (.int _)⟩
/-- f(e), f a built-in -/
theorem de_b1 {X : Cx} {c : Cc} {id : String} {r : List V → Hp → VK → Prop} {g : D → Option Val} {x : Str} {p pos : Pos} {e : Expr} {o : Opd} (hc : CallR X (.builtin id) r) (h : Op1 c.T c.K c.L (fun v => r [v]) g) (hg : Gl X x) (hm : X.mg x = none) (hv : bootBuiltins x = some (.builtin id)) (ha : DO X c e o)
    (hs : starEach [e] X.env = [(false, eval e X.env)]) (hn : x ≠ "__name__") (hd : (x == ("__debug__" : Str)) = false) : DE X c (.Call (.Name x p) [e] [] pos) (mOp1 g o) :=
  peImp (pe_callB hc hg hm hv (pa_cons ha pa_nil hs) hn hd hs rfl) fun σ H Q q => rd_op1 (r := fun v => r [v]) h q
theorem de_t1 {X : Cx} {c : Cc} {T : String} {r : List V → Hp → VK → Prop} {g : D → Option Val} {x : Str} {p pos : Pos} {e : Expr} {o : Opd} (hc : CallR X (.type T) r) (h : Op1 c.T c.K c.L (fun v => r [v]) g) (hg : Gl X x) (hm : X.mg x = none) (hv : bootBuiltins x = some (.type T)) (ha : DO X c e o)
    (hs : starEach [e] X.env = [(false, eval e X.env)]) (hn : x ≠ "__name__") (hd : (x == ("__debug__" : Str)) = false) : DE X c (.Call (.Name x p) [e] [] pos) (mOp1 g o) :=
  peImp (pe_callTy hc hg hm hv (pa_cons ha pa_nil hs) hn hd hs rfl) fun σ H Q q => rd_op1 (r := fun v => r [v]) h q
/-- f(a, b), f a built-in -/
theorem de_b2 {X : Cx} {c : Cc} {id : String} {r : List V → Hp → VK → Prop} {g : D → D → Option Val} {x : Str} {p pos : Pos} {a b : Expr} {oa ob : Opd} (hc : CallR X (.builtin id) r) (h : OpD c.T c.K c.L (fun v u => r [v, u]) g) (hg : Gl X x) (hm : X.mg x = none) (hv : bootBuiltins x = some (.builtin id)) (ha : DO X c a oa) (hb : DO X c b ob)
    (hs : starEach [a, b] X.env = [(false, eval a X.env), (false, eval b X.env)]) (hs2 : starEach [b] X.env = [(false, eval b X.env)]) (hn : x ≠ "__name__") (hd : (x == ("__debug__" : Str)) = false) : DE X c (.Call (.Name x p) [a, b] [] pos) (mOp g oa ob) :=
  peImp (pe_callB hc hg hm hv (pa_cons ha (pa_cons hb pa_nil hs2) (by rw [hs, hs2])) hn hd (by rw [hs, hs2]) (by rw [hs2]; rfl)) fun σ H Q q => rd_op (r := fun v u => r [v, u]) h q
theorem Op1.or {K : PySem.W.Frag} {L : Nat} {r r' : V → Hp → VK → Prop} {g g' : D → Option Val} (h : Op1 T K L r g) (h' : Op1 T K L r' g') : Op1 T K L (fun x H Q => r x H Q ∨ r' x H Q) (fun d => match g d with | some z => some z | none => g' d) := by
  intro s x d z Q E rx hz q
  cases hg : g d with
  | some w =>
    have e' : w = z := by
      simp only [hg] at hz
      exact Option.some.inj hz
    subst e'
    exact .inl (h s x d w Q E rx hg q)
  | none =>
    simp only [hg] at hz
    exact .inr (h' s x d z Q E rx hz q)
def gLen : D → Option Val := fun d => match d with
  | .list xs => some (.fz (.int xs.length))
  | .tuple xs => some (.fz (.int xs.length))
  | .str x => if x.length ≤ 1000000 then some (.fz (.int x.length)) else none
  | .dict ((.none, _) :: r) => some (.fz (.int r.length))
  | _ => none
theorem gLen_dic {K : PySem.W.Frag} {H : Hp} {kvs : List (Key × V)} {ds : List (D × D)} (h : DrK K H kvs ds) : gLen (.dict ds) = none := by
  cases h with
  | nil => rfl
  | @cons k _ _ _ _ _ _ => cases k <;> rfl
theorem op_gLen {K : PySem.W.Frag} {L : Nat} : Op1 T K L (fun v H Q => ∃ x n, [v] = [x] ∧ LenV K x H n ∧ Q (.int n) H) gLen := by
  intro s x d z Q E rx hz q
  cases rx <;> try (cases hz; done)
  · rename_i x
    unfold gLen at hz
    by_cases hc : x.length ≤ 1000000
    · dsimp only at hz
      rw [if_pos hc] at hz
      cases hz
      exact ⟨_, _, rfl, ⟨line_le hc, rfl⟩, q _ _ _ E Ext.refl (.int _)⟩
    · dsimp only at hz
      rw [if_neg hc] at hz
      cases hz
  · rename_i a xs ds h1 h2
    cases hz
    exact ⟨_, xs.length, rfl, .inl ⟨xs, SqL.of h1, rfl⟩, q _ _ _ E Ext.refl (by rw [DrA.len h2]; exact Dr.int _)⟩
  · rename_i a xs ds h1 h2
    cases hz
    exact ⟨_, xs.length, rfl, .inr ⟨xs, sameT E.sub h1, rfl⟩, q _ _ _ E Ext.refl (by rw [DrA.len h2]; exact Dr.int _)⟩
  · rename_i a kvs ds h1 h2
    rw [gLen_dic h2] at hz
    cases hz
  · rename_i a ns h1
    cases hz
    exact ⟨_, (ns.map V.int).length, rfl, .inl ⟨_, sameL E.sub h1, rfl⟩, q _ _ _ E Ext.refl (by rw [List.length_map, List.length_map]; exact Dr.int _)⟩
def gAbs : D → Option Val := fun d => match d with
  | .int i => some (.fz (.int (if i < 0 then -i else i)))
  | _ => none
theorem op_gAbs {K : PySem.W.Frag} {L : Nat} : Op1 T K L (fun v H Q => ∃ i, [v] = [V.int i] ∧ Q (.int (if i < 0 then -i else i)) H) gAbs := by
  intro s x d z Q E rx hz q
  cases rx <;> try (cases hz; done)
  cases hz
  exact ⟨_, rfl, q _ _ _ E Ext.refl (.int _)⟩
def gInt : D → Option Val := fun d => match d with
  | .int i => some (.fz (.int i))
  | .bool k => some (.fz (.int (if k then 1 else 0)))
  | _ => none
theorem op_gInt {K : PySem.W.Frag} {L : Nat} : Op1 T K L (fun v H Q => (∃ i, [v] = [V.int i] ∧ Q (.int i) H) ∨ ∃ k, [v] = [V.bl k] ∧ Q (.int (if k then 1 else 0)) H) gInt := by
  intro s x d z Q E rx hz q
  cases rx <;> try (cases hz; done)
  · cases hz
    exact .inr ⟨_, rfl, q _ _ _ E Ext.refl (.int _)⟩
  · cases hz
    exact .inl ⟨_, rfl, q _ _ _ E Ext.refl (.int _)⟩
def gListOf : D → Option Val := fun d => match d with
  | .list xs => some (.ow xs)
  | .tuple xs => some (.ow xs)
  | _ => none
theorem op_gListOf {K : PySem.W.Frag} {L : Nat} : Op1 T K L (fun v H Q => ∃ p ys, [v] = [V.ref p] ∧ (SqL K H p ys ∨ SqT K H p ys) ∧ ∀ l, H l = none → Q (.ref l) (upd H l (.lst ys))) gListOf := by
  intro s x d z Q E rx hz q
  cases rx <;> try (cases hz; done)
  · rename_i a xs ds h1 h2
    cases hz
    refine ⟨a, xs, rfl, .inl (SqL.of h1), fun p hp => ?_⟩
    obtain ⟨E2, X2, f2⟩ := E.laid (L := L) (.lst xs) hp
    exact q _ _ _ E2 X2 ⟨p, _, rfl, upd_same, h2, f2, frn_of hp⟩
  · rename_i a xs ds h1 h2
    cases hz
    refine ⟨a, xs, rfl, .inr (sameT E.sub h1), fun p hp => ?_⟩
    obtain ⟨E2, X2, f2⟩ := E.laid (L := L) (.lst xs) hp
    exact q _ _ _ E2 X2 ⟨p, _, rfl, upd_same, h2, f2, frn_of hp⟩
def gTupOf : D → Option Val := fun d => match d with
  | .list xs => some (.fz (.tuple xs))
  | .tuple xs => some (.fz (.tuple xs))
  | _ => none
theorem op_gTupOf {K : PySem.W.Frag} {L : Nat} : Op1 T K L (fun v H Q => ∃ p ys, [v] = [V.ref p] ∧ ((SqL K H p ys ∧ ∀ l, H l = none → Q (.ref l) (upd H l (.tup ys))) ∨ (SqT K H p ys ∧ Q (.ref p) H))) gTupOf := by
  intro s x d z Q E rx hz q
  cases rx <;> try (cases hz; done)
  · rename_i a xs ds h1 h2
    cases hz
    refine ⟨a, xs, rfl, .inl ⟨SqL.of h1, fun p hp => ?_⟩⟩
    obtain ⟨E2, X2, sm⟩ := E.newFz (L := L) (.tup xs) hp
    exact q _ _ _ E2 X2 (.tup (SqT.of upd_same) (h2.same sm))
  · rename_i a xs ds h1 h2
    cases hz
    exact ⟨a, xs, rfl, .inr ⟨sameT E.sub h1, q _ _ _ E Ext.refl (.tup h1 h2)⟩⟩
/-- all, any of a list of truth values -/
def boolsOf : List D → Option (List Bool)
  | [] => some []
  | .bool b :: r => (boolsOf r).map (b :: ·)
  | _ :: _ => none
theorem bools_rep {K : PySem.W.Frag} {H : Hp} : ∀ {xs : List V} {ds : List D} {bs : List Bool}, DrA K H xs ds → boolsOf ds = some bs → xs = bs.map V.bl
  | _, _, _, .nil, h => by cases h; rfl
  | _, _, bs, .cons (v := v) (d := d) h r, e => by
    cases h <;> try (cases e; done)
    rename_i vs ds b
    unfold boolsOf at e
    cases q : boolsOf ds with
    | none => rw [q] at e; cases e
    | some cs =>
      rw [q] at e
      cases e
      rw [bools_rep r q]
      rfl
def gAll : D → Option Val := fun d => match d with
  | .list xs => (boolsOf xs).map fun bs => .fz (.bool (bs.all id))
  | _ => none
theorem op_gAll {K : PySem.W.Frag} {L : Nat} : Op1 T K L (fun v => rAll K [v]) gAll := by
  intro s x d z Q E rx hz q
  cases rx <;> try (cases hz; done)
  rename_i a xs ds h1 h2
  unfold gAll at hz
  cases hb : boolsOf ds with
  | none => simp only [hb] at hz; cases hz
  | some bs =>
    simp only [hb] at hz
    cases hz
    exact ⟨a, bs, rfl, by rw [← bools_rep h2 hb]; exact SqL.of h1, q _ _ _ E Ext.refl (.bl _)⟩
def gAny : D → Option Val := fun d => match d with
  | .list xs => (boolsOf xs).map fun bs => .fz (.bool (bs.any id))
  | _ => none
theorem op_gAny {K : PySem.W.Frag} {L : Nat} : Op1 T K L (fun v => rAny K [v]) gAny := by
  intro s x d z Q E rx hz q
  cases rx <;> try (cases hz; done)
  rename_i a xs ds h1 h2
  unfold gAny at hz
  cases hb : boolsOf ds with
  | none => simp only [hb] at hz; cases hz
  | some bs =>
    simp only [hb] at hz
    cases hz
    exact ⟨a, bs, rfl, by rw [← bools_rep h2 hb]; exact SqL.of h1, q _ _ _ E Ext.refl (.bl _)⟩
/-- divmod, max, min of two ints -/
def gDivmod : D → D → Option Val := fun d e => match d, e with
  | .int i, .int j => if 0 < j ∧ j < 1073741824 then some (.fz (.tuple [.int (i / j), .int (i % j)])) else none
  | _, _ => none
theorem op_gDivmod {K : PySem.W.Frag} {L : Nat} : OpD T K L (fun v u H Q => ∃ i j, [v, u] = [V.int i, V.int j] ∧ CDiv i j ∧ ∀ p, H p = none → Q (.ref p) (upd H p (.tup [.int (i / j), .int (i % j)]))) gDivmod := by
  intro s x y d e z Q E rx ry hz q
  cases rx <;> cases ry <;> try (cases hz; done)
  rename_i i j
  unfold gDivmod at hz
  by_cases hc : 0 < j ∧ j < 1073741824
  · dsimp only at hz
    rw [if_pos hc] at hz
    cases hz
    refine ⟨i, j, rfl, hc, fun p hp => ?_⟩
    obtain ⟨E2, X2, sm⟩ := E.newFz (L := L) (.tup [.int (i / j), .int (i % j)]) hp
    exact q _ _ _ E2 X2 (.tup (SqT.of upd_same) (.cons (.int _) (.cons (.int _) .nil)))
  · dsimp only at hz
    rw [if_neg hc] at hz
    cases hz
def gMax2 : D → D → Option Val := fun d e => match d, e with
  | .int i, .int j => some (.fz (.int (if j > i then j else i)))
  | _, _ => none
theorem op_gMax2 {K : PySem.W.Frag} {L : Nat} : OpD T K L (fun v u H Q => ∃ i j, [v, u] = [V.int i, V.int j] ∧ Q (.int (if j > i then j else i)) H) gMax2 := by
  intro s x y d e z Q E rx ry hz q
  cases rx <;> cases ry <;> try (cases hz; done)
  cases hz
  exact ⟨_, _, rfl, q _ _ _ E Ext.refl (.int _)⟩
def gMin2 : D → D → Option Val := fun d e => match d, e with
  | .int i, .int j => some (.fz (.int (if j < i then j else i)))
  | _, _ => none
theorem op_gMin2 {K : PySem.W.Frag} {L : Nat} : OpD T K L (fun v u H Q => ∃ i j, [v, u] = [V.int i, V.int j] ∧ Q (.int (if j < i then j else i)) H) gMin2 := by
  intro s x y d e z Q E rx ry hz q
  cases rx <;> cases ry <;> try (cases hz; done)
  cases hz
  exact ⟨_, _, rfl, q _ _ _ E Ext.refl (.int _)⟩
/-- tuples put together, empty ones too -/
def gCatA : D → D → Option Val := fun d e => match d, e with
  | .tuple a, .tuple b => if a.length + b.length ≤ 1000000 then some (.fz (.tuple (a ++ b))) else none
  | _, _ => none
theorem op_gCatA {K : PySem.W.Frag} {L : Nat} : OpD T K L (rCatA K) gCatA := by
  intro s x y d e z Q E rx ry hz q
  cases rx <;> cases ry <;> try (cases hz; done)
  rename_i a xs ds h1 h2 b ys es h3 h4
  unfold gCatA at hz
  by_cases hc : ds.length + es.length ≤ 1000000
  · dsimp only at hz
    rw [if_pos hc] at hz
    cases hz
    refine ⟨a, b, xs, ys, rfl, rfl, sameT E.sub h1, sameT E.sub h3, line_le (by rw [DrA.len h2, DrA.len h4]; exact hc), fun z => ?_, fun _ z => ?_, fun _ _ p hp => ?_⟩
    · subst z
      cases h2
      exact q _ _ _ E Ext.refl (.tup h3 h4)
    · subst z
      cases h4
      rw [List.append_nil] at q
      exact q _ _ _ E Ext.refl (.tup h1 h2)
    · obtain ⟨E2, X2, sm⟩ := E.newFz (L := L) (.tup (xs ++ ys)) hp
      exact q _ _ _ E2 X2 (.tup (SqT.of upd_same) (DrA.same sm (DrA.app h2 h4)))
  · dsimp only at hz
    rw [if_neg hc] at hz
    cases hz
/-! ### a[i] -/
def gIx : D → D → Option Val := fun d e => match d, e with
  | .list xs, .int i => (atI xs i).map .fz
  | .tuple xs, .int i => (atI xs i).map .fz
  | .dict ((.none, _) :: r), .int i => (atI (r.map (·.2)) i).map .fz
  | _, _ => none
theorem atI_rep {K : PySem.W.Frag} {H : Hp} {xs : List V} {ds : List D} {i : Int} {d : D} (h : DrA K H xs ds) (e : atI ds i = some d) : ∃ v, atI xs i = some v ∧ Dr K H v d := by
  unfold atI at e ⊢
  rw [DrA.len h]
  cases q : ixN ds.length i with
  | none => rw [q] at e; cases e
  | some j =>
    rw [q] at e
    exact DrA.get h e
theorem gIx_dic {K : PySem.W.Frag} {H : Hp} {kvs : List (Key × V)} {ds : List (D × D)} (h : DrK K H kvs ds) (e : D) : gIx (.dict ds) e = none := by
  cases h with
  | nil => rfl
  | @cons k _ _ _ _ _ _ => cases k <;> rfl
theorem op_gIx {K : PySem.W.Frag} {L : Nat} : OpD T K L (fun x y H Q => rIxL K x y H Q ∨ rIxT K x y H Q) gIx := by
  intro s x y d e z Q E rx ry hz q
  have nd : ∀ (kvs : List (Key × V)) (ds : List (D × D)), DrK K s.fr kvs ds → d = .dict ds → False := fun kvs ds h1 h2 => by
    rw [h2, gIx_dic h1] at hz
    cases hz
  cases rx <;> cases ry <;> first | (exact (nd _ _ (by assumption) rfl).elim) | (cases hz; done) | skip
  · rename_i a xs ds h1 h2 i
    unfold gIx at hz
    cases hb : atI ds i with
    | none => simp only [hb] at hz; cases hz
    | some w =>
      simp only [hb] at hz
      cases hz
      obtain ⟨v, r1, r2⟩ := atI_rep h2 hb
      exact .inl ⟨a, xs, i, v, rfl, rfl, SqL.of h1, r1, q _ _ _ E Ext.refl r2⟩
  · rename_i a xs ds h1 h2 i
    unfold gIx at hz
    cases hb : atI ds i with
    | none => simp only [hb] at hz; cases hz
    | some w =>
      simp only [hb] at hz
      cases hz
      obtain ⟨v, r1, r2⟩ := atI_rep h2 hb
      exact .inr ⟨a, xs, i, v, rfl, rfl, sameT E.sub h1, r1, q _ _ _ E Ext.refl r2⟩
  · rename_i a ns h1 i
    unfold gIx at hz
    dsimp only at hz
    have dr : DrA K s.fr (ns.map V.int) ((ns.map fun i => ((PyData.none, PyData.int i) : D × D)).map (·.2)) := by
      clear h1 hz nd
      induction ns with
      | nil => exact .nil
      | cons n r ih => exact .cons (.int n) ih
    cases hb : atI ((ns.map fun i => ((PyData.none, PyData.int i) : D × D)).map (·.2)) i with
    | none => rw [hb] at hz; cases hz
    | some w =>
      rw [hb] at hz
      cases hz
      obtain ⟨v, r1, r2⟩ := atI_rep dr hb
      exact .inl ⟨a, _, i, v, rfl, rfl, sameL E.sub h1, r1, q _ _ _ E Ext.refl r2⟩
theorem de_ix {X : Cx} {c : Cc} {r : R2} {g : D → D → Option Val} {a b : Expr} {oa ob : Opd} {pos : Pos} (ho : IxR X r) (h : OpD c.T c.K c.L r g) (ha : DO X c a oa) (hb : DO X c b ob) (hs : PlainIx b) : DE X c (.Subscript a b pos) (mOp g oa ob) :=
  peImp (pe_ix ho ha hb hs) fun _ _ _ q => rd_op h q
end DL

/-! DL6: isinstance, repr, slices, append, targets. -/
namespace DL
open PySem PySem.Spec PyProof.Rows L2
variable {T : Tb}

/-! ### isinstance -/
inductive Ty where
  | int | bool | str | tup | lst | dic
def Ty.nm : Ty → String
  | .int => "int"
  | .bool => "bool"
  | .str => "str"
  | .tup => "tuple"
  | .lst => "list"
  | .dic => "dict"
def tyN : D → String
  | .none => "NoneType"
  | .bool _ => "bool"
  | .int _ => "int"
  | .str _ => "str"
  | .list _ => "list"
  | .tuple _ => "tuple"
  | .dict _ => "dict"
def isTy : Ty → D → Bool
  | .int, .int _ => true
  | .int, .bool _ => true
  | .bool, .bool _ => true
  | .str, .str _ => true
  | .tup, .tuple _ => true
  | .lst, .list _ => true
  | .dic, .dict _ => true
  | _, _ => false
theorem kit_isTy (K : PySem.W.Frag) (t : Ty) (d : D) : PySem.W.kitOne K (.type (tyN d)) (.type t.nm) = some (isTy t d) := by
  cases d <;> cases t <;> exact kit_ty (by dsimp only [tyN, Ty.nm, isTy]; decide +kernel)
def isScr : D → Bool
  | .dict ((.none, _) :: _) => true
  | _ => false
theorem tyx_db {K : PySem.W.Frag} {s : DSt} (E : ER T K s) {v : V} {d : D} (h : Db K s v d) (ns : isScr d = false) {H : Hp} (sm : Same s.hp H) : TyX K H v (.type (tyN d)) := by
  cases h with
  | non => exact .base .non
  | bl b => exact .base (.bl b)
  | int i => exact .base (.int i)
  | str x => exact .base (.str x)
  | lst h1 h2 => exact .base (.lst (sm _ _ h1))
  | tup h1 h2 =>
    rcases h1 with (h1 | ⟨o, h1⟩) | ⟨o, its, n, h1, hc, _⟩
    · exact .base (.tup (sm _ _ (E.sub _ _ h1)))
    · exact .fTuple (sm _ _ (E.sub _ _ h1))
    · exact .kTuple h1 hc
  | dic h1 h2 =>
    rcases h1 with h1 | ⟨o, h1⟩
    · exact .base (.dK (sm _ _ (E.sub _ _ h1)))
    · exact .fDict (sm _ _ (E.sub _ _ h1))
  | scr h1 => cases ns
def gIsi (ts : List Ty) : D → Option Val := fun d => if isScr d then none else some (.fz (.bool (ts.any fun t => isTy t d)))
theorem op_gIsi {K : PySem.W.Frag} {L : Nat} {t : Ty} : Op1 T K L (fun v => rIsi K [v, .ty t.nm]) (gIsi [t]) := by
  intro s x d z Q E rx hz q
  unfold gIsi at hz
  cases ns : isScr d with
  | true => rw [ns, if_pos rfl] at hz; cases hz
  | false =>
  rw [ns, if_neg Bool.false_ne_true] at hz
  cases hz
  refine ⟨x, _, _, _, isTy t d, rfl, .ty _, tyx_db E rx ns (Same.refl _), kit_isTy K t d, ?_⟩
  have h := q (.bl (isTy t d)) s.hp s.fr E Ext.refl (by
    have e : ([t].any fun t => isTy t d) = isTy t d := by simp
    rw [e]
    exact Dr.bl _)
  exact h
theorem kit_any (K : PySem.W.Frag) (d : D) : ∀ ts : List Ty, PySem.W.kitAny K (.type (tyN d)) (ts.map fun t => Value.type t.nm) = some (ts.any fun t => isTy t d)
  | [] => kitAny_nil
  | t :: r => kitAny_cons (kit_isTy K t d) (fun h => by rw [kit_any K d r]; simp [h]) (fun h => by simp [h])
theorem clsv_tys : ∀ ts : List Ty, Paired ClsV (ts.map fun t => V.ty t.nm) (ts.map fun t => Value.type t.nm)
  | [] => .nil
  | t :: r => .cons (.ty _) (clsv_tys r)
theorem op_gIsiT {K : PySem.W.Frag} {L : Nat} {ts : List Ty} (hl : ts.length ≤ sizeLine) : Op1 T K L (fun v H Q => (ts.map fun t => V.ty t.nm).length ≤ sizeLine ∧ ∀ p, H p = none → rIsiT K [v, .ref p] (upd H p (.tup (ts.map fun t => V.ty t.nm))) Q) (gIsi ts) := by
  intro s x d z Q E rx hz q
  unfold gIsi at hz
  cases ns : isScr d with
  | true => rw [ns, if_pos rfl] at hz; cases hz
  | false =>
  rw [ns, if_neg Bool.false_ne_true] at hz
  cases hz
  refine ⟨by rw [List.length_map]; exact hl, fun p hp => ?_⟩
  obtain ⟨E2, X2, f2⟩ := E.laid (L := L) (.tup (ts.map fun t => V.ty t.nm)) hp
  refine ⟨x, p, _, _, _, _, rfl, upd_same, clsv_tys ts, tyx_db E rx ns (same_new hp), kit_any K d ts, q _ _ _ E2 X2 (Dr.bl _)⟩
where same_new {H : Hp} {p : Addr} {o : HO} (hp : H p = none) : Same H (upd H p o) := fun b u e => by rw [upd_ne (ne_of_none e hp)]; exact e
def tTys : List Ty → TA
  | [] => tNil
  | t :: r => tCons (tC (.ty t.nm)) (tTys r)
theorem tTys_ok : ∀ (ts : List Ty) (σ : L2.St) (H : Hp) (Q : List V → Hp → Prop), Q (ts.map fun t => V.ty t.nm) H → tTys ts σ H Q
  | [], _, _, _, h => h
  | t :: r, σ, H, Q, h => tTys_ok r σ H (fun xs H2 => Q (V.ty t.nm :: xs) H2) h
theorem de_isi1 {X : Cx} {c : Cc} {t : Ty} {x y : Str} {p q pos : Pos} {e : Expr} {o : Opd} (hK : c.K = X.K) (hg : Gl X x) (hm : X.mg x = none) (hv : bootBuiltins x = some (.builtin "isinstance")) (ha : DO X c e o) (hy : PE X (.Name y q) (tC (.ty t.nm)))
    (hs : starEach [e, .Name y q] X.env = [(false, eval e X.env), (false, eval (.Name y q) X.env)]) (hn : x ≠ "__name__") (hd : (x == ("__debug__" : Str)) = false) : DE X c (.Call (.Name x p) [e, .Name y q] [] pos) (mOp1 (gIsi [t]) o) :=
  peImp (pe_callB call_isi hg hm hv (pa_cons ha (pa_cons hy pa_nil) (by rw [hs]; rfl)) hn hd (by rw [hs]; rfl) rfl) fun σ H Q q => rd_op1 (r := fun v => rIsi X.K [v, .ty t.nm]) (by rw [← hK]; exact op_gIsi) q
theorem de_isiT {X : Cx} {c : Cc} {ts : List Ty} {x : Str} {es : List Expr} {k : Nat} {p q pos : Pos} {e : Expr} {o : Opd} (hK : c.K = X.K) (hl : ts.length ≤ sizeLine) (hg : Gl X x) (hm : X.mg x = none) (hv : bootBuiltins x = some (.builtin "isinstance")) (ha : DO X c e o) (hy : PA X es (tTys ts))
    (hs : starEach [e, .Tuple es k q] X.env = [(false, eval e X.env), (false, eval (.Tuple es k q) X.env)]) (hn : x ≠ "__name__") (hd : (x == ("__debug__" : Str)) = false) : DE X c (.Call (.Name x p) [e, .Tuple es k q] [] pos) (mOp1 (gIsi ts) o) :=
  peImp (pe_callB call_isiT hg hm hv (pa_cons ha (pa_cons (pe_tup hy) pa_nil) (by rw [hs]; rfl)) hn hd (by rw [hs]; rfl) rfl) fun σ H Q q => by
    have h := rd_op1 (r := fun v H Q => (ts.map fun t => V.ty t.nm).length ≤ sizeLine ∧ ∀ p, H p = none → rIsiT X.K [v, .ref p] (upd H p (.tup (ts.map fun t => V.ty t.nm))) Q) (by rw [← hK]; exact op_gIsiT hl) q
    exact tOpd_mono h fun v H1 w => tTys_ok ts σ H1 _ ⟨w.1, fun p hp => w.2 p hp⟩

/-! ### repr -/
def gRepr : D → Option Val := fun d => if d.plain && d.showable && decide (d.shown.length ≤ 1000000) && shal d then some (.fz (.str d.shown)) else none
def rRepr (K : PySem.W.Frag) : List V → Hp → VK → Prop := fun xs H Q => ∃ x d, xs = [x] ∧ Dp K H x d ∧ d.plain = true ∧ d.showable = true ∧ d.shown.length ≤ sizeLine ∧ d.depth ≤ 64 ∧ Q (.str d.shown) H
theorem plain_nohas : ∀ {d : D}, d.plain = true → d.hasDict = false := by
  have key : ∀ (n : Nat) (d : D), sizeOf d < n → d.plain = true → d.hasDict = false := by
    intro n
    induction n with
    | zero => intro d h; omega
    | succ n ih =>
      intro d h hp
      have all : ∀ xs : List D, (∀ x ∈ xs, sizeOf x < n) → PyData.plainAll xs = true → PyData.hasDictAll xs = false := by
        intro xs
        induction xs with
        | nil => intros; simp [PyData.hasDictAll]
        | cons x r ihx =>
          intro hs hq
          simp only [PyData.plainAll, Bool.and_eq_true] at hq
          simp only [PyData.hasDictAll, Bool.or_eq_false_iff]
          exact ⟨ih x (hs x (List.mem_cons_self ..)) hq.1, ihx (fun y hy => hs y (List.mem_cons_of_mem _ hy)) hq.2⟩
      cases d with
      | list xs =>
        have : ∀ x ∈ xs, sizeOf x < n := fun x hx => by
          have := List.sizeOf_lt_of_mem hx
          simp only [PyData.list.sizeOf_spec] at h
          omega
        simpa [PyData.hasDict] using all xs this (by simpa [PyData.plain] using hp)
      | tuple xs =>
        have : ∀ x ∈ xs, sizeOf x < n := fun x hx => by
          have := List.sizeOf_lt_of_mem hx
          simp only [PyData.tuple.sizeOf_spec] at h
          omega
        simpa [PyData.hasDict] using all xs this (by simpa [PyData.plain] using hp)
      | dict kvs => simp [PyData.plain] at hp
      | _ => simp [PyData.hasDict]
  exact fun {d} h => key (sizeOf d + 1) d (Nat.lt_succ_self _) h
theorem call_repr {X : Cx} (hg : X.A.guards = some []) (hu : X.A.units + 68 < cLine) : CallR X (.builtin "repr") (rRepr X.K) := by
  intro pins s σ H xs us Q I r h
  obtain ⟨x, d, rfl, hd, hp, hs, hz, hdep, q⟩ := h
  obtain ⟨u, rfl, r1⟩ := vals1 r
  cases hd with
  | non =>
    cases r1
    exact PySem.P.repr_of_none ⟨.str _, H, I.tok _, ⟨_, rfl⟩, by simpa [PyData.shown] using q⟩
  | bl b =>
    cases r1
    exact PySem.P.repr_of_bool ⟨.str _, H, I.tok _, ⟨_, rfl⟩, by simpa [PyData.shown] using q⟩
  | int i =>
    obtain ⟨t, rfl⟩ := r1
    exact PySem.P.repr_of_int (by simpa [PyData.showable] using hs) ⟨.str _, H, I.tok _, ⟨_, rfl⟩, by simpa [PyData.shown] using q⟩
  | str z =>
    obtain ⟨t, rfl⟩ := r1
    exact PySem.P.repr_of_str ⟨.str _, H, I.tok _, ⟨_, rfl⟩, by simpa [PyData.shown] using q⟩ (by simpa [PyData.shown] using hz)
  | lst h1 h2 =>
    cases r1
    obtain ⟨as, rd⟩ := Dp.reads I _ _ _ (Dp.lst h1 h2) rfl
    exact repr_of_reads' rd hs (PyData.noDict_hsm (plain_nohas hp)) hg (by omega) (fun _ _ e => e) (fun h' u tk hk => ⟨.str _, H, I.kept hk, ⟨_, rfl⟩, q⟩) hz
  | tup h1 h2 =>
    cases r1
    obtain ⟨as, rd⟩ := Dp.reads I _ _ _ (Dp.tup h1 h2) rfl
    exact repr_of_reads' rd hs (PyData.noDict_hsm (plain_nohas hp)) hg (by omega) (fun _ _ e => e) (fun h' u tk hk => ⟨.str _, H, I.kept hk, ⟨_, rfl⟩, q⟩) hz
theorem op_gRepr {K : PySem.W.Frag} {L : Nat} : Op1 T K L (fun v => rRepr K [v]) gRepr := by
  intro s x d z Q E rx hz q
  unfold gRepr at hz
  by_cases hc : (d.plain && d.showable && decide (d.shown.length ≤ 1000000) && shal d) = true
  · rw [if_pos hc] at hz
    cases hz
    simp only [Bool.and_eq_true] at hc
    exact ⟨x, d, rfl, (Db.hp E rx).dp (plain_nod hc.1.1.1), hc.1.1.1, hc.1.1.2, line_le (of_decide_eq_true hc.1.2), of_decide_eq_true hc.2, q _ _ _ E Ext.refl (Dr.str _)⟩
  · rw [if_neg hc] at hz; cases hz

/-! ### a[lo:hi] -/
def cutD {α : Type} (xs : List α) (lo hi : Option Int) : List α := (xs.drop (HT.sIx xs.length 0 lo)).take (HT.sIx xs.length xs.length hi - HT.sIx xs.length 0 lo)
theorem cut_rep {K : PySem.W.Frag} {H : Hp} {xs : List V} {ds : List D} (h : DrA K H xs ds) (lo hi : Option Int) : DrA K H (cutV xs lo hi) (cutD ds lo hi) := by
  unfold cutV cutD
  rw [DrA.len h]
  exact DrA.tk _ (DrA.dp _ h)
def gSl (lo hi : Option Int) : D → Option Val := fun d => match d with
  | .list xs => some (.ow (cutD xs lo hi))
  | .tuple xs => some (.fz (.tuple (cutD xs lo hi)))
  | _ => none
def mPart : Option (DM D) → DM (Option Int)
  | none => fun e => .ok none e
  | some m => fun e => (m e).andThen fun d e1 => match d with
    | .int i => .ok (some i) e1
    | _ => .bad
def tPart' (c : Cc) : Option (DM D) → TO
  | none => tNoPart
  | some m => tPart (tR c (rD c) m)
theorem part_step {c : Cc} {α β : Type} {rel : DSt → DSt → β → α → Prop} {m : Option (DM D)} {σ : L2.St} {e : DEnv} {H Hf : Hp} {k : Option Int → DM α} {Q : β → Hp → Prop} (mo : Mono c.L rel) (E : ER c.T c.K ⟨σ, e, H, Hf⟩) (q : Post c rel ⟨σ, e, H, Hf⟩ ((mPart m e).andThen k) Q) :
    tPart' c m σ H (fun l H1 => ∃ e1 Hf1, ER c.T c.K ⟨σ, e1, H1, Hf1⟩ ∧ Ext c.L ⟨σ, e, H, Hf⟩ ⟨σ, e1, H1, Hf1⟩ ∧ Post c rel ⟨σ, e1, H1, Hf1⟩ (k l e1) Q) := by
  cases m with
  | none => exact ⟨e, Hf, E, Ext.refl, q⟩
  | some m =>
    have q' : Post c rel ⟨σ, e, H, Hf⟩ ((m e).andThen fun d e1 => match d with | .int i => k (some i) e1 | _ => .bad) Q := by
      unfold mPart at q
      cases h : m e with
      | bad => simp only [h] at q; exact q
      | exc x e1 => simp only [h] at q; exact q
      | ok d e1 => simp only [h] at q; cases d <;> exact q
    refine ⟨e, Hf, E, Post.mono (Post.next (rel := rD c) mo q') fun v H1 w => ?_⟩
    obtain ⟨d, e1, Hf1, E1, X1, r1, q1⟩ := w
    cases d with
    | int i =>
      have r2 : Dr c.K Hf1 v (.int i) := r1
      cases r2
      exact ⟨i, rfl, e1, Hf1, E1, X1, q1⟩
    | _ => exact q1.elim
def mSl (o : Opd) (lo hi : Option (DM D)) : DM Val := fun e => (o.ev e).andThen fun x e1 => (mPart lo e1).andThen fun l e2 => (mPart hi e2).andThen fun h e3 => match o.now x e3 with
  | some d => mOpt (gSl l h d) e3
  | none => .bad
def PO' (X : Cx) (c : Cc) (e : Option Expr) (m : Option (DM D)) : Prop := PO X e (tPart' c m)
theorem po_no {X : Cx} {c : Cc} : PO' X c none none := po_none
theorem po_yes {X : Cx} {c : Cc} {e : Expr} {m : DM D} (h : DD X c e m) : PO' X c (some e) (some m) := po_some h
theorem tPart_mono {c : Cc} {m : Option (DM D)} {σ : L2.St} {H : Hp} {Q Q' : Option Int → Hp → Prop} (h : tPart' c m σ H Q) (hq : ∀ v H, Q v H → Q' v H) : tPart' c m σ H Q' := by
  cases m with
  | none => exact hq _ _ h
  | some m =>
    obtain ⟨e, Hf, E, q⟩ := h
    exact ⟨e, Hf, E, q.mono fun v H ⟨i, h1, h2⟩ => ⟨i, h1, hq _ _ h2⟩⟩
theorem cut_whole {α : Type} {xs : List α} {lo hi : Option Int} (h : HT.sIx xs.length 0 lo = 0 ∧ HT.sIx xs.length xs.length hi = xs.length) : cutD xs lo hi = xs := by
  unfold cutD
  rw [h.1, h.2]
  simp
theorem de_sl {X : Cx} {c : Cc} {e : Expr} {o : Opd} {lo hi : Option Expr} {ml mh : Option (DM D)} {pos p2 : Pos} (hK : c.K = X.K) (ho : DO X c e o) (hl : PO' X c lo ml) (hh : PO' X c hi mh) : DE X c (.Subscript e (.Slice lo hi none p2) pos) (mSl o ml mh) :=
  peImp (pe_slice (SlR.or sl_list sl_tupA) ho hl hh) fun σ H Q q => by
    obtain ⟨en, Hf, E, q⟩ := q
    refine tOpd_mono (opd_step mono_rV E q) fun v H1 w => ?_
    obtain ⟨x, e1, Hf1, E1, X1, r1, q1⟩ := w
    refine tPart_mono (part_step mono_rV E1 q1) fun l H2 w => ?_
    obtain ⟨e2, Hf2, E2, X2, q2⟩ := w
    refine tPart_mono (part_step mono_rV E2 q2) fun h H3 w => ?_
    obtain ⟨e3, Hf3, E3, X3, q3⟩ := w
    have r3 := OR.keep (L := c.L) (X2.trans X3) rfl r1
    cases hx : o.now x e3 with
    | none => simp only [hx] at q3; exact q3.elim
    | some d =>
      simp only [hx] at q3
      have db := OR.now E3 r3 hx
      rw [hK] at db
      cases db with
      | lst h1 h2 =>
        rename_i a xs ds
        refine .inl ⟨a, xs, rfl, SqL.of h1, fun p hp => ?_⟩
        obtain ⟨E4, X4, f4⟩ := E3.laid (L := c.L) (.lst (cutV xs l h)) hp
        exact q3 _ _ _ E4 X4 ⟨p, _, rfl, upd_same, by rw [hK]; exact cut_rep h2 l h, f4, frn_of hp⟩
      | tup h1 h2 =>
        rename_i a xs ds
        have sub : Same Hf3 H3 := E3.sub
        refine .inr ⟨a, xs, rfl, sameT sub h1, fun hw => ?_, fun _ p hp => ?_⟩
        · refine q3 _ _ _ E3 Ext.refl ?_
          show Dr c.K Hf3 (.ref a) (.tuple (cutD ds l h))
          rw [DrA.len h2] at hw
          rw [cut_whole hw, hK]
          exact .tup h1 h2
        · obtain ⟨E4, X4, sm⟩ := E3.newFz (L := c.L) (.tup (cutV xs l h)) hp
          refine q3 _ _ _ E4 X4 ?_
          show Dr c.K _ (.ref p) (.tuple (cutD ds l h))
          rw [hK]
          exact .tup (SqT.of upd_same) (DrA.same sm (cut_rep h2 l h))
      | _ => exact q3.elim

/-! ### an own list changed -/
/-- an owned slot's list is changed -/
theorem ER.upo {K : PySem.W.Frag} {L : Nat} {s : DSt} (E : ER T K s) {i : Nat} {ds ds' : List D} {a : Addr} {xs' : List V} (e : s.en[i]? = some (.ow ds)) (ha : s.st[i]? = some (some (.ref a))) (h3 : DrA K s.fr xs' ds') :
    ER T K ⟨s.st, s.en.set i (.ow ds'), upd s.hp a (.lst xs'), s.fr⟩ ∧ Ext L s ⟨s.st, s.en.set i (.ow ds'), upd s.hp a (.lst xs'), s.fr⟩ := by
  obtain ⟨a', xs, g1, g2, g3, g4⟩ := E.ow i ds e
  rw [ha] at g1
  cases g1
  have hi : i < s.en.length := (List.getElem?_eq_some_iff.mp e).1
  have back : ∀ (j : Nat) (es : List D), (s.en.set i (Cell.ow ds'))[j]? = some (.ow es) → ∃ es', s.en[j]? = some (.ow es') := fun j es q => by
    by_cases hj : i = j
    · subst hj
      exact ⟨ds, e⟩
    · rw [List.getElem?_set_ne hj] at q
      exact ⟨es, q⟩
  refine ⟨⟨by rw [List.length_set]; exact E.len, fun b u q => ?_, fun j d q => ?_, fun j es q => ?_, fun j k es fs p q1 q2 q3 q4 => ?_, tbok_upd E.tb (.inr ⟨xs, g2⟩)⟩, ⟨Same.refl _, fun p f => ⟨⟨?_, f.2.1, fun ⟨j, es, q1, q2⟩ => ?_⟩, ?_⟩, fun _ _ => rfl⟩⟩
  · have hb : b ≠ a := fun z => by subst z; rw [g3] at q; cases q
    show upd s.hp a _ b = some u
    rw [upd_ne hb]
    exact E.sub b u q
  · have q' : (s.en.set i (Cell.ow ds'))[j]? = some (.fz d) := q
    by_cases hj : i = j
    · subst hj
      rw [List.getElem?_set_self hi] at q'
      cases q'
    · rw [List.getElem?_set_ne hj] at q'
      exact E.fz j d q'
  · have q' : (s.en.set i (Cell.ow ds'))[j]? = some (.ow es) := q
    by_cases hj : i = j
    · subst hj
      rw [List.getElem?_set_self hi] at q'
      cases q'
      exact ⟨a, xs', ha, upd_same, g3, h3⟩
    · rw [List.getElem?_set_ne hj] at q'
      obtain ⟨p, ys, r1, r2, r3, r4⟩ := E.ow j es q'
      refine ⟨p, ys, r1, ?_, r3, r4⟩
      have hp : p ≠ a := fun z => by subst z; exact hj (E.inj i j ds es _ e q' ha r1)
      show upd s.hp a _ p = _
      rw [upd_ne hp]
      exact r2
  · obtain ⟨es', z1⟩ := back j es q1
    obtain ⟨fs', z2⟩ := back k fs q2
    exact E.inj j k es' fs' p z1 z2 q3 q4
  · have hp : p ≠ a := fun z => by subst z; exact f.2.2 ⟨i, ds, e, ha⟩
    exact f.1.eq (upd_ne hp)
  · obtain ⟨es', z1⟩ := back j es q1
    exact f.2.2 ⟨j, es', z1, q2⟩
  · show upd s.hp a _ p = _
    have hp : p ≠ a := fun z => by subst z; exact f.2.2 ⟨i, ds, e, ha⟩
    rw [upd_ne hp]
/-- x.append(e), x an own list -/
def mApp (i : Nat) (m : DM D) : DM Val := fun e => (m e).andThen fun d e1 => match e1[i]? with
  | some (.ow ds) => if ds.length ≤ 1000000 then .ok (.fz .none) (e1.set i (.ow (ds ++ [d]))) else .bad
  | _ => .bad
def isOw (e : DEnv) (i : Nat) : Bool := match e[i]? with
  | some (.ow _) => true
  | _ => false
def mApp' (i : Nat) (m : DM D) : DM Val := fun e => if isOw e i then mApp i m e else .bad
theorem DrA.one {K : PySem.W.Frag} {H : Hp} {v : V} {d : D} (h : Dr K H v d) : DrA K H [v] [d] := .cons h .nil
theorem line_lt {n : Nat} (h : n ≤ 1000000) : n < sizeLine := by
  rw [sizeLine_eq]; omega
theorem de_app {X : Cx} {c : Cc} {x : Str} {p apos cpos : Pos} {e : Expr} {i : Nat} {m : DM D} (hK : c.K = X.K) (hx : PE X (.Name x p) (tVar i)) (he : DD X c e m) (hs : starEach [e] X.env = [(false, eval e X.env)]) (hline : (apos.endLine == cpos.line) = true) :
    DE X c (.Call (.Attribute (.Name x p) "append" apos) [e] [] cpos) (mApp' i m) :=
  peImp (pe_bm PySem.F.plainAttrs_list PySem.F.slot_list_append PySem.F.type_list_append mt_append hx (pa_cons he pa_nil hs) rfl (by rw [hs]; rfl) hline hs rfl) fun σ H Q q => by
    obtain ⟨en, Hf, E, q⟩ := q
    unfold mApp' isOw at q
    cases hi : en[i]? with
    | none => simp only [hi] at q; exact q.elim
    | some cl =>
      cases cl with
      | no => simp only [hi] at q; exact q.elim
      | fz d => simp only [hi] at q; exact q.elim
      | ow ds =>
        simp only [hi] at q
        obtain ⟨a, xs, h1, h2, h3, h4⟩ := E.ow i ds hi
        refine ⟨.ref a, h1, .inl ⟨rfl, xs, SqL.of h2⟩, en, Hf, E, ?_⟩
        refine Post.mono (Post.next (rel := rD c) mono_rV (show Post c (rV c) _ ((m en).andThen _) Q from q)) fun v H1 w => ?_
        obtain ⟨d, e1, Hf1, E1, X1, r1, q1⟩ := w
        cases hj : e1[i]? with
        | none => simp only [hj] at q1; exact q1.elim
        | some cl =>
          cases cl with
          | no => simp only [hj] at q1; exact q1.elim
          | fz d => simp only [hj] at q1; exact q1.elim
          | ow es =>
            simp only [hj] at q1
            by_cases hc : es.length ≤ 1000000
            · rw [if_pos hc] at q1
              obtain ⟨b, ys, g1, g2, g3, g4⟩ := E1.ow i es hj
              have g1' : σ[i]? = some (some (.ref b)) := g1
              rw [h1] at g1'
              cases g1'
              obtain ⟨E2, X2⟩ := E1.upo (L := c.L) hj h1 (DrA.app g4 (DrA.one r1))
              exact ⟨a, ys, v, rfl, rfl, g2, line_lt (by rw [DrA.len g4]; exact hc), q1 _ _ _ E2 X2 Dr.non⟩
            · rw [if_neg hc] at q1; exact q1.elim
end DL

/-! DL7: targets, statements, for, while, by deep values. -/
namespace DL
open PySem PySem.Spec PyProof.Rows L2
variable {T : Tb}

mutual
inductive Tgt where
  | nm (i : Nat)
  | sub (i : Nat) (ix : DM D)
  | tup (ts : Tgts)
inductive Tgts where
  | nil
  | cons (t : Tgt) (r : Tgts)
end
def Tgts.len : Tgts → Nat
  | .nil => 0
  | .cons _ r => r.len + 1
mutual
def tgV (L : Nat) : Tgt → Val → DM Unit
  | .nm i, v => fun e => if i < L then .bad else .ok () (e.set i v.cell)
  | .sub i ix, v => fun e => if isOw e i then (ix e).andThen fun k e1 => match k, e1[i]? with
      | .int k, some (.ow ds) => match ixN ds.length k with
        | some j => .ok () (e1.set i (.ow (ds.set j v.d)))
        | none => .bad
      | _, _ => .bad
    else .bad
  | .tup ts, v => fun e => match v with
    | .fz (.tuple ds) => if ds.length = ts.len then tgsV L ts ds e else .bad
    | _ => .bad
def tgsV (L : Nat) : Tgts → List D → DM Unit
  | .nil, [] => fun e => .ok () e
  | .cons t r, d :: ds => fun e => (tgV L t (.fz d) e).andThen fun _ e1 => tgsV L r ds e1
  | _, _ => fun _ => .bad
end
/-- what is wanted behind a run that stores -/
def PostT (c : Cc) (s0 : DSt) (r : DRes Unit) (Q : L2.St → Hp → Prop) : Prop :=
  match r with
  | .ok _ e => ∀ σ' H' Hf', ER c.T c.K ⟨σ', e, H', Hf'⟩ → Ext c.L s0 ⟨σ', e, H', Hf'⟩ → Q σ' H'
  | .exc x e => ∀ C dx σ' H' Hf', ER c.T c.K ⟨σ', e, H', Hf'⟩ → Ext c.L s0 ⟨σ', e, H', Hf'⟩ → XR c ⟨σ', e, H', Hf'⟩ C dx x → c.W C dx σ' H'
  | .bad => False
theorem PostT.mono {c : Cc} {s0 : DSt} {r : DRes Unit} {Q Q' : L2.St → Hp → Prop} (h : PostT c s0 r Q) (hq : ∀ σ H, Q σ H → Q' σ H) : PostT c s0 r Q' := by
  cases r with
  | ok a e => exact fun σ' H' Hf' E X => hq _ _ (h σ' H' Hf' E X)
  | exc x e => exact h
  | bad => exact h
theorem PostT.base {c : Cc} {s0 s1 : DSt} {r : DRes Unit} {Q : L2.St → Hp → Prop} (X : Ext c.L s0 s1) (h : PostT c s0 r Q) : PostT c s1 r Q := by
  cases r with
  | ok a e => exact fun σ' H' Hf' E X' => h σ' H' Hf' E (X.trans X')
  | exc x e => exact fun C dx σ' H' Hf' E X' q => h C dx σ' H' Hf' E (X.trans X') q
  | bad => exact h
theorem PostT.bind {c : Cc} {s0 : DSt} {r : DRes Unit} {k : DM Unit} {Q : L2.St → Hp → Prop} (h : PostT c s0 (r.andThen fun _ e => k e) Q) :
    PostT c s0 r (fun σ' H' => ∃ e Hf, ER c.T c.K ⟨σ', e, H', Hf⟩ ∧ Ext c.L s0 ⟨σ', e, H', Hf⟩ ∧ PostT c s0 (k e) Q) := by
  cases r with
  | ok a e => exact fun σ' H' Hf' E X => ⟨e, Hf', E, X, h⟩
  | exc x e => exact h
  | bad => exact h
/-- a value's run, then a store's -/
theorem PostT.val {α β : Type} {c : Cc} {rel : DSt → DSt → β → α → Prop} {s0 : DSt} {r : DRes α} {k : α → DM Unit} {Q : L2.St → Hp → Prop} (h : PostT c s0 (r.andThen k) Q) :
    Post c rel s0 r (fun b H1 => ∃ a e Hf1, ER c.T c.K ⟨s0.st, e, H1, Hf1⟩ ∧ Ext c.L s0 ⟨s0.st, e, H1, Hf1⟩ ∧ rel s0 ⟨s0.st, e, H1, Hf1⟩ b a ∧ PostT c s0 (k a e) Q) := by
  cases r with
  | ok a e => exact fun b H' Hf' E X q => ⟨a, e, Hf', E, X, q, h⟩
  | exc x e => exact fun C dx H' Hf' E X q => h C dx _ H' Hf' E X q
  | bad => exact h
def tG (c : Cc) (t : Tgt) : TG := fun v σ H Q => ∃ s0 val e Hf, ER c.T c.K ⟨σ, e, H, Hf⟩ ∧ Ext c.L s0 ⟨σ, e, H, Hf⟩ ∧ VR c.K s0 ⟨σ, e, H, Hf⟩ v val ∧ PostT c s0 (tgV c.L t val e) Q
def tGs (c : Cc) (ts : Tgts) : TGs := fun vs σ H Q => ∃ ds s0 e Hf, ER c.T c.K ⟨σ, e, H, Hf⟩ ∧ Ext c.L s0 ⟨σ, e, H, Hf⟩ ∧ DrA c.K Hf vs ds ∧ PostT c s0 (tgsV c.L ts ds e) Q
def DG (X : Cx) (c : Cc) (e : Expr) (t : Tgt) : Prop := PG X e (tG c t)
def DGs (X : Cx) (c : Cc) (es : List Expr) (ts : Tgts) : Prop := PGs X es (tGs c ts)
theorem pgImp {X : Cx} {e : Expr} {t t' : TG} (h : PG X e t) (i : ∀ v σ H Q, t' v σ H Q → t v σ H Q) : PG X e t' := ⟨fun pins s σ H v u Q I r q => h.run pins s σ H v u Q I r (i v σ H Q q)⟩
theorem pgsImp {X : Cx} {e : List Expr} {t t' : TGs} (h : PGs X e t) (i : ∀ v σ H Q, t' v σ H Q → t v σ H Q) : PGs X e t' := ⟨fun pins s σ H v u Q I r q => h.run pins s σ H v u Q I r (i v σ H Q q)⟩
/-- a value is stored in a slot -/
theorem ER.put {K : PySem.W.Frag} {L : Nat} {s0 s : DSt} (E : ER T K s) (X : Ext L s0 s) {v : V} {val : Val} (r : VR K s0 s v val) {i : Nat} (hi : L ≤ i) :
    ER T K ⟨s.st.set i (some v), s.en.set i val.cell, s.hp, s.fr⟩ ∧ Ext L s0 ⟨s.st.set i (some v), s.en.set i val.cell, s.hp, s.fr⟩ := by
  have at_ : ∀ (j : Nat) (cl : Cell), (s.en.set i val.cell)[j]? = some cl → (j = i ∧ cl = val.cell ∧ (s.st.set i (some v))[j]? = some (some v)) ∨ (j ≠ i ∧ s.en[j]? = some cl ∧ (s.st.set i (some v))[j]? = s.st[j]?) := fun j cl h => by
    by_cases hj : j = i
    · subst hj
      have hl : j < s.en.length := by
        have := (List.getElem?_eq_some_iff.mp h).1
        rwa [List.length_set] at this
      rw [List.getElem?_set_self hl] at h
      exact .inl ⟨rfl, (Option.some.inj h).symm, by rw [List.getElem?_set_self (by rw [← E.len]; exact hl)]⟩
    · rw [List.getElem?_set_ne (Ne.symm hj)] at h
      exact .inr ⟨hj, h, by rw [List.getElem?_set_ne (Ne.symm hj)]⟩
  have own : ∀ a, Own ⟨s.st.set i (some v), s.en.set i val.cell, s.hp, s.fr⟩ a → Own s a ∨ ∃ ds, val = .ow ds ∧ v = .ref a := fun a ⟨j, ds, h1, h2⟩ => by
    rcases at_ j _ h1 with ⟨e1, e2, e3⟩ | ⟨e1, e2, e3⟩
    · have h2' : (s.st.set i (some v))[j]? = some (some (.ref a)) := h2
      rw [e3] at h2'
      cases h2'
      cases val with
      | fz d => cases e2
      | ow ds' => exact .inr ⟨ds', rfl, rfl⟩
    · have h2' : (s.st.set i (some v))[j]? = some (some (.ref a)) := h2
      rw [e3] at h2'
      exact .inl ⟨j, ds, e2, h2'⟩
  refine ⟨⟨by rw [List.length_set, List.length_set]; exact E.len, E.sub, fun j d h => ?_, fun j ds h => ?_, fun j k ds es a h1 h2 h3 h4 => ?_, E.tb⟩, ⟨X.keep, fun a f => ?_, fun j hj => ?_⟩⟩
  · rcases at_ j _ h with ⟨e1, e2, e3⟩ | ⟨e1, e2, e3⟩
    · cases val with
      | ow ds => cases e2
      | fz d' =>
        cases e2
        exact ⟨v, e3, r⟩
    · obtain ⟨u, h1, h2⟩ := E.fz j d e2
      exact ⟨u, e3.trans h1, h2⟩
  · rcases at_ j _ h with ⟨e1, e2, e3⟩ | ⟨e1, e2, e3⟩
    · cases val with
      | fz d => cases e2
      | ow ds' =>
        cases e2
        obtain ⟨a, xs, g1, g2, g3, g4, g5⟩ := r
        subst g1
        exact ⟨a, xs, e3, g2, g4.2.1, g3⟩
    · obtain ⟨a, xs, h1, h2, h3, h4⟩ := E.ow j ds e2
      exact ⟨a, xs, e3.trans h1, h2, h3, h4⟩
  · have h3' : (s.st.set i (some v))[j]? = some (some (.ref a)) := h3
    have h4' : (s.st.set i (some v))[k]? = some (some (.ref a)) := h4
    rcases at_ j _ h1 with ⟨e1, e2, e3⟩ | ⟨e1, e2, e3⟩ <;> rcases at_ k _ h2 with ⟨f1, f2, f3⟩ | ⟨f1, f2, f3⟩
    · exact e1.trans f1.symm
    · rw [e3] at h3'
      cases h3'
      rw [f3] at h4'
      cases val with
      | fz d => cases e2
      | ow ds' =>
        obtain ⟨b, xs, g1, g2, g3, g4, g5⟩ := r
        cases g1
        exact absurd ⟨k, es, f2, h4'⟩ g4.2.2
    · rw [f3] at h4'
      cases h4'
      rw [e3] at h3'
      cases val with
      | fz d => cases f2
      | ow ds' =>
        obtain ⟨b, xs, g1, g2, g3, g4, g5⟩ := r
        cases g1
        exact absurd ⟨j, ds, e2, h3'⟩ g4.2.2
    · rw [e3] at h3'
      rw [f3] at h4'
      exact E.inj j k ds es a e2 f2 h3' h4'
  · obtain ⟨⟨f1, f2, f3⟩, e⟩ := X.frn a f
    refine ⟨⟨f1, f2, fun o => ?_⟩, e⟩
    rcases own a o with z | ⟨ds, z1, z2⟩
    · exact f3 z
    · subst z1 z2
      obtain ⟨b, xs, g1, g2, g3, g4, g5⟩ := r
      cases g1
      exact g5 f
  · show (s.st.set i (some v))[j]? = s0.st[j]?
    rw [List.getElem?_set_ne (by omega)]
    exact X.lk j hj
theorem dg_nm {X : Cx} {c : Cc} {x : Str} {pos : Pos} {i : Nat} (h : PG X (.Name x pos) (gName i)) : DG X c (.Name x pos) (.nm i) := pgImp h fun v σ H Q q => by
  obtain ⟨s0, val, e, Hf, E, X0, r, q⟩ := q
  unfold tgV at q
  by_cases hi : i < c.L
  · rw [if_pos hi] at q; exact q.elim
  · rw [if_neg hi] at q
    obtain ⟨E1, X1⟩ := E.put X0 r (show c.L ≤ i by omega)
    exact q _ _ _ E1 X1
theorem rd_gName {c : Cc} {i : Nat} {v : V} {σ : L2.St} {H : Hp} {Q : L2.St → Hp → Prop} (q : tG c (.nm i) v σ H Q) : gName i v σ H Q := by
  obtain ⟨s0, val, e, Hf, E, X0, r, q⟩ := q
  unfold tgV at q
  by_cases hi : i < c.L
  · rw [if_pos hi] at q; exact q.elim
  · rw [if_neg hi] at q
    obtain ⟨E1, X1⟩ := E.put X0 r (show c.L ≤ i by omega)
    exact q _ _ _ E1 X1
/-- what an own value stands for when it is given away -/
theorem vr_fz {c : Cc} {s0 s : DSt} (E : ER c.T c.K s) (X : Ext c.L s0 s) {v : V} {val : Val} (r : VR c.K s0 s v val) : ∃ Hf', ER c.T c.K ⟨s.st, s.en, s.hp, Hf'⟩ ∧ Ext c.L s0 ⟨s.st, s.en, s.hp, Hf'⟩ ∧ Dr c.K Hf' v val.d := by
  cases val with
  | fz d => exact ⟨s.fr, E, X, r⟩
  | ow ds =>
    obtain ⟨p, xs, rfl, h2, h3, h4, h5⟩ := r
    obtain ⟨E2, X2, sm⟩ := E.froz X h2 h4 h5
    exact ⟨_, E2, X2, .lst upd_same (h3.same sm)⟩
theorem dg_sub {X : Cx} {c : Cc} {x : Str} {p pos : Pos} {ie : Expr} {i : Nat} {m : DM D} (hx : PE X (.Name x p) (tVar i)) (hi : DD X c ie m)
    (hw : ∀ v, assign (.Subscript (.Name x p) ie pos) X.env v = (do let a ← holding [v] (eval (.Name x p) X.env); let b ← holding [v, a] (eval ie X.env); standAt pos; holding [v, a, b] (setItem a b v); release [v, a, b] [])) : DG X c (.Subscript (.Name x p) ie pos) (.sub i m) := by
  refine pgImp (pg_sub hx hi set_list hw) fun v σ H Q q => ?_
  obtain ⟨s0, val, e, Hf, E, X0, r, q⟩ := q
  unfold tgV at q
  cases ho : isOw e i with
  | false => rw [ho] at q; exact q.elim
  | true =>
    rw [ho] at q
    rw [if_pos rfl] at q
    obtain ⟨Hf1, E1, X1, dr⟩ := vr_fz E X0 r
    unfold isOw at ho
    cases he : e[i]? with
    | none => rw [he] at ho; cases ho
    | some cl =>
      cases cl with
      | no => rw [he] at ho; cases ho
      | fz d => rw [he] at ho; cases ho
      | ow ds =>
        obtain ⟨a, xs, h1, h2, h3, h4⟩ := E1.ow i ds he
        refine ⟨.ref a, h1, e, Hf1, E1, ?_⟩
        refine Post.mono (PostT.val (rel := rD c) (PostT.base X1 q)) fun kv H1 w => ?_
        obtain ⟨kd, e2, Hf2, E2, X2, r2, q2⟩ := w
        cases kd with
        | int k =>
          cases hj : e2[i]? with
          | none => simp only [hj] at q2; exact q2.elim
          | some cl =>
            cases cl with
            | no => simp only [hj] at q2; exact q2.elim
            | fz d => simp only [hj] at q2; exact q2.elim
            | ow es =>
              simp only [hj] at q2
              cases hk : ixN es.length k with
              | none => simp only [hk] at q2; exact q2.elim
              | some j =>
                simp only [hk] at q2
                have r2' : Dr c.K Hf2 kv (.int k) := r2
                cases r2'
                obtain ⟨b, ys, g1, g2, g3, g4⟩ := E2.ow i es hj
                have g1' : σ[i]? = some (some (.ref b)) := g1
                have h1' : σ[i]? = some (some (.ref a)) := h1
                rw [h1'] at g1'
                cases g1'
                obtain ⟨E3, X3⟩ := E2.upo (L := c.L) hj h1 (DrA.put (dr.same X2.keep) j g4)
                exact ⟨a, ys, k, j, rfl, rfl, g2, by rw [DrA.len g4]; exact hk, q2 _ _ _ E3 (X2.trans X3)⟩
        | _ => exact q2.elim
theorem dgs_nil {X : Cx} {c : Cc} : DGs X c [] .nil := pgsImp pgs_nil fun vs σ H Q q => by
  obtain ⟨ds, s0, e, Hf, E, X0, r, q⟩ := q
  cases r with
  | nil => exact ⟨rfl, q _ _ _ E X0⟩
  | cons _ _ => exact q.elim
theorem dgs_cons {X : Cx} {c : Cc} {e : Expr} {es : List Expr} {t : Tgt} {r : Tgts} (h : DG X c e t) (g : DGs X c es r) (hs : (assignEach (e :: es) X.env).map (·.2) = assign e X.env :: (assignEach es X.env).map (·.2)) : DGs X c (e :: es) (.cons t r) := pgsImp (pgs_cons h g hs) fun vs σ H Q q => by
  obtain ⟨ds, s0, en, Hf, E, X0, rr, q⟩ := q
  cases rr with
  | nil => exact q.elim
  | cons h1 h2 =>
    rename_i v vs d ds
    have q' : PostT c ⟨σ, en, H, Hf⟩ ((tgV c.L t (.fz d) en).andThen fun _ e1 => tgsV c.L r ds e1) Q := PostT.base X0 q
    refine ⟨v, vs, rfl, ⟨σ, en, H, Hf⟩, .fz d, en, Hf, E, Ext.refl, h1, PostT.mono (PostT.bind q') fun σ' H' w => ?_⟩
    obtain ⟨e1, Hf1, E1, X1, q1⟩ := w
    exact ⟨ds, _, e1, Hf1, E1, X1, h2.same X1.keep, q1⟩
theorem dg_tup {X : Cx} {c : Cc} {es : List Expr} {ts : Tgts} {k : Nat} {pos : Pos} (hK : c.K = X.K) (hc : X.calm = true) (h : DGs X c es ts) (hn : (assignEach es X.env).length = ts.len) (hst : (assignEach es X.env).findIdx? (·.1) = none) : DG X c (.Tuple es k pos) (.tup ts) :=
  pgImp (pg_tup hc h hn hst) fun v σ H Q q => by
    obtain ⟨s0, val, e, Hf, E, X0, r, q⟩ := q
    unfold tgV at q
    cases val with
    | ow ds => exact q.elim
    | fz d =>
      cases d with
      | tuple ds =>
        dsimp only at q
        have r' : Dr c.K Hf v (.tuple ds) := r
        cases r' with
        | tup h1 h2 =>
          rename_i a xs
          by_cases hl : ds.length = ts.len
          · rw [if_pos hl] at q
            rw [hK] at h1
            exact ⟨a, xs, rfl, sameT E.sub h1, by rw [DrA.len h2, hl], ds, s0, e, Hf, E, X0, h2, q⟩
          · rw [if_neg hl] at q; exact q.elim
      | _ => exact q.elim

/-! ### statements -/
inductive SRes where
  | nx (e : DEnv)
  | rt (v : Val) (e : DEnv)
  | brk (e : DEnv)
  | cnt (e : DEnv)
  | exc (x : Exc) (e : DEnv)
  | bad
abbrev SM := DEnv → SRes
def PostS (c : Cc) (s0 : DSt) (r : SRes) (D : Ends) : Prop :=
  match r with
  | .nx e => ∀ σ' H' Hf', ER c.T c.K ⟨σ', e, H', Hf'⟩ → Ext c.L s0 ⟨σ', e, H', Hf'⟩ → D.nx σ' H'
  | .rt a e => ∀ v σ' H' Hf', ER c.T c.K ⟨σ', e, H', Hf'⟩ → Ext c.L s0 ⟨σ', e, H', Hf'⟩ → VR c.K s0 ⟨σ', e, H', Hf'⟩ v a → D.rt v H'
  | .brk e => ∀ σ' H' Hf', ER c.T c.K ⟨σ', e, H', Hf'⟩ → Ext c.L s0 ⟨σ', e, H', Hf'⟩ → D.bk σ' H'
  | .cnt e => ∀ σ' H' Hf', ER c.T c.K ⟨σ', e, H', Hf'⟩ → Ext c.L s0 ⟨σ', e, H', Hf'⟩ → D.ct σ' H'
  | .exc x e => ∀ C dx σ' H' Hf', ER c.T c.K ⟨σ', e, H', Hf'⟩ → Ext c.L s0 ⟨σ', e, H', Hf'⟩ → XR c ⟨σ', e, H', Hf'⟩ C dx x → c.W C dx σ' H'
  | .bad => False
def tS (c : Cc) (m : SM) : TS := fun D σ H => ∃ e Hf, ER c.T c.K ⟨σ, e, H, Hf⟩ ∧ PostS c ⟨σ, e, H, Hf⟩ (m e) D
def DS (X : Cx) (c : Cc) (st : Stmt) (m : SM) : Prop := PS X st (tS c m)
def DSs (X : Cx) (c : Cc) (sts : List Stmt) (m : SM) : Prop := PSs X sts (tS c m)
theorem PostS.base {c : Cc} {s0 s1 : DSt} {r : SRes} {D : Ends} (X : Ext c.L s0 s1) (h : PostS c s0 r D) : PostS c s1 r D := by
  cases r with
  | nx e => exact fun σ' H' Hf' E X' => h σ' H' Hf' E (X.trans X')
  | rt a e => exact fun v σ' H' Hf' E X' q => h v σ' H' Hf' E (X.trans X') (mono_rV (c := c) (L := c.L) _ _ _ _ _ X q)
  | brk e => exact fun σ' H' Hf' E X' => h σ' H' Hf' E (X.trans X')
  | cnt e => exact fun σ' H' Hf' E X' => h σ' H' Hf' E (X.trans X')
  | exc x e => exact fun C dx σ' H' Hf' E X' q => h C dx σ' H' Hf' E (X.trans X') q
  | bad => exact h
def SRes.seq (r : SRes) (k : SM) : SRes := match r with
  | .nx e => k e
  | r => r
def sSeq (a b : SM) : SM := fun e => (a e).seq b
theorem PostS.seq {c : Cc} {s0 : DSt} {r : SRes} {k : SM} {D : Ends} (h : PostS c s0 (r.seq k) D) : PostS c s0 r { D with nx := fun σ' H' => tS c k D σ' H' } := by
  cases r with
  | nx e => exact fun σ' H' Hf' E X => ⟨e, Hf', E, PostS.base X h⟩
  | rt a e => exact h
  | brk e => exact h
  | cnt e => exact h
  | exc x e => exact h
  | bad => exact h
theorem dss_nil {X : Cx} {c : Cc} : DSs X c [] (fun e => .nx e) := pssImp pss_nil fun D σ H q => by
  obtain ⟨e, Hf, E, q⟩ := q
  exact q _ _ _ E Ext.refl
theorem dss_cons {X : Cx} {c : Cc} {st : Stmt} {r : List Stmt} {a b : SM} (h : DS X c st a) (g : DSs X c r b) : DSs X c (st :: r) (sSeq a b) := pssImp (pss_cons h g) fun D σ H q => by
  obtain ⟨e, Hf, E, q⟩ := q
  exact ⟨e, Hf, E, PostS.seq q⟩
/-- a run of a value, then a statement -/
def DRes.stm {α : Type} (r : DRes α) (k : α → SM) : SRes := match r with
  | .ok a e => k a e
  | .exc x e => .exc x e
  | .bad => .bad
theorem PostS.val {α β : Type} {c : Cc} {rel : DSt → DSt → β → α → Prop} {s0 : DSt} {r : DRes α} {k : α → SM} {D : Ends} (h : PostS c s0 (r.stm k) D) :
    Post c rel s0 r (fun b H1 => ∃ a e Hf1, ER c.T c.K ⟨s0.st, e, H1, Hf1⟩ ∧ Ext c.L s0 ⟨s0.st, e, H1, Hf1⟩ ∧ rel s0 ⟨s0.st, e, H1, Hf1⟩ b a ∧ PostS c s0 (k a e) D) := by
  cases r with
  | ok a e => exact fun b H' Hf' E X q => ⟨a, e, Hf', E, X, q, h⟩
  | exc x e => exact fun C dx H' Hf' E X q => h C dx _ H' Hf' E X q
  | bad => exact h
def sIf (t : DM Bool) (a b : SM) : SM := fun e => (t e).stm fun k e1 => if k = true then a e1 else b e1
theorem ds_if {X : Cx} {c : Cc} {t : Expr} {a b : List Stmt} {mt : DM Bool} {ma mb : SM} {pos : Pos} (ht : DT X c t mt) (ha : DSs X c a ma) (hb : DSs X c b mb) : DS X c (.If t a b pos) (sIf mt ma mb) := psImp (ps_if ht ha hb) fun D σ H q => by
  obtain ⟨e, Hf, E, q⟩ := q
  refine ⟨e, Hf, E, Post.mono (PostS.val (rel := rB) q) fun k H1 w => ?_⟩
  obtain ⟨k', e1, Hf1, E1, X1, r1, q1⟩ := w
  cases (show k = k' from r1)
  cases k with
  | true => exact ⟨e1, Hf1, E1, PostS.base X1 q1⟩
  | false => exact ⟨e1, Hf1, E1, PostS.base X1 q1⟩
def sRet (m : DM Val) : SM := fun e => (m e).stm fun v e1 => .rt v e1
theorem ds_ret {X : Cx} {c : Cc} {e : Expr} {m : DM Val} {pos : Pos} (h : DE X c e m) : DS X c (.Return (some e) pos) (sRet m) := psImp (ps_ret h) fun D σ H q => by
  obtain ⟨en, Hf, E, q⟩ := q
  refine ⟨en, Hf, E, Post.mono (PostS.val (rel := rV c) q) fun v H1 w => ?_⟩
  obtain ⟨a, e1, Hf1, E1, X1, r1, q1⟩ := w
  exact q1 _ _ _ _ E1 X1 r1
theorem ds_ret0 {X : Cx} {c : Cc} {pos : Pos} : DS X c (.Return none pos) (fun e => .rt (.fz .none) e) := psImp ps_retN fun D σ H q => by
  obtain ⟨en, Hf, E, q⟩ := q
  exact q _ _ _ _ E Ext.refl (Dr.non)
/-- a slot's own list is given away -/
theorem ER.give {K : PySem.W.Frag} {L : Nat} {s : DSt} (E : ER T K s) {i : Nat} {ds : List D} {a : Addr} {xs : List V} (e : s.en[i]? = some (.ow ds)) (ha : s.st[i]? = some (some (.ref a))) (h1 : s.hp a = some (.lst xs)) (h2 : s.fr a = none) :
    ER T K ⟨s.st, s.en.set i .no, s.hp, s.fr⟩ ∧ Ext L s ⟨s.st, s.en.set i .no, s.hp, s.fr⟩ ∧ Frn ⟨s.st, s.en.set i .no, s.hp, s.fr⟩ a := by
  have hi : i < s.en.length := (List.getElem?_eq_some_iff.mp e).1
  have old : ∀ (j : Nat) (cl : Cell), (s.en.set i Cell.no)[j]? = some cl → cl ≠ .no → j ≠ i ∧ s.en[j]? = some cl := fun j cl h hn => by
    by_cases hj : j = i
    · subst hj
      rw [List.getElem?_set_self hi] at h
      exact absurd (Option.some.inj h).symm hn
    · rw [List.getElem?_set_ne (Ne.symm hj)] at h
      exact ⟨hj, h⟩
  have own : ∀ b, Own ⟨s.st, s.en.set i .no, s.hp, s.fr⟩ b → Own s b ∧ b ≠ a := fun b ⟨j, es, q1, q2⟩ => by
    obtain ⟨hj, q1'⟩ := old j _ q1 (by simp)
    refine ⟨⟨j, es, q1', q2⟩, fun z => ?_⟩
    subst z
    exact hj (E.inj j i es ds _ q1' e q2 ha)
  refine ⟨⟨by rw [List.length_set]; exact E.len, E.sub, fun j d h => ?_, fun j es h => ?_, fun j k es fs p q1 q2 q3 q4 => ?_, E.tb⟩, ⟨Same.refl _, fun b f => ⟨⟨f.1, f.2.1, fun o => f.2.2 (own b o).1⟩, rfl⟩, fun _ _ => rfl⟩, ⟨?_, h2, fun o => (own a o).2 rfl⟩⟩
  · exact E.fz j d (old j _ h (by simp)).2
  · exact E.ow j es (old j _ h (by simp)).2
  · exact E.inj j k es fs p (old j _ q1 (by simp)).2 (old k _ q2 (by simp)).2 q3 q4
  · exact .of (u := .lst xs) h1 (fun _ z => by cases z)
def sRetV (L i : Nat) : SM := fun e => match e[i]? with
  | some (.fz d) => .rt (.fz d) e
  | some (.ow ds) => if i < L then .bad else .rt (.ow ds) (e.set i .no)
  | _ => .bad
theorem ds_retV {X : Cx} {c : Cc} {x : Str} {p pos : Pos} {i : Nat} (h : PE X (.Name x p) (tVar i)) : DS X c (.Return (some (.Name x p)) pos) (sRetV c.L i) := psImp (ps_ret h) fun D σ H q => by
  obtain ⟨e, Hf, E, q⟩ := q
  unfold sRetV at q
  cases h : e[i]? with
  | none => rw [h] at q; exact q.elim
  | some cl =>
    cases cl with
    | no => rw [h] at q; exact q.elim
    | fz d =>
      rw [h] at q
      obtain ⟨v, h1, h2⟩ := E.fz i d h
      exact ⟨v, h1, q v _ _ _ E Ext.refl h2⟩
    | ow ds =>
      rw [h] at q
      by_cases hl : i < c.L
      · dsimp only at q; rw [if_pos hl] at q; exact q.elim
      · dsimp only at q; rw [if_neg hl] at q
        obtain ⟨a, xs, h1, h2, h3, h4⟩ := E.ow i ds h
        obtain ⟨E1, X1, f1⟩ := E.give (L := c.L) h h1 h2 h3
        exact ⟨.ref a, h1, q _ _ _ _ E1 X1 ⟨a, xs, rfl, h2, h4, f1, fun f => f.2.2 ⟨i, ds, h, h1⟩⟩⟩
def sDrop (m : DM Val) : SM := fun e => (m e).stm fun _ e1 => .nx e1
theorem ds_expr {X : Cx} {c : Cc} {e : Expr} {m : DM Val} {pos : Pos} (h : DE X c e m) (hs : swapsWith e none pos.line X.env = pure false) : DS X c (.Expr e pos) (sDrop m) := psImp (ps_expr h hs) fun D σ H q => by
  obtain ⟨en, Hf, E, q⟩ := q
  refine ⟨en, Hf, E, Post.mono (PostS.val (rel := rV c) q) fun v H1 w => ?_⟩
  obtain ⟨a, e1, Hf1, E1, X1, r1, q1⟩ := w
  exact q1 _ _ _ E1 X1
theorem ds_doc {X : Cx} {c : Cc} {x : Str} {j : Nat} {p pos : Pos} : DS X c (.Expr (.Constant (.str x) j p) pos) (fun e => .nx e) := psImp ps_doc fun D σ H q => by
  obtain ⟨en, Hf, E, q⟩ := q
  exact q _ _ _ E Ext.refl
theorem ds_pass {X : Cx} {c : Cc} {pos : Pos} : DS X c (.Pass pos) (fun e => .nx e) := psImp ps_pass fun D σ H q => by
  obtain ⟨en, Hf, E, q⟩ := q
  exact q _ _ _ E Ext.refl
theorem ds_break {X : Cx} {c : Cc} {pos : Pos} : DS X c (.Break pos) (fun e => .brk e) := psImp ps_break fun D σ H q => by
  obtain ⟨en, Hf, E, q⟩ := q
  exact q _ _ _ E Ext.refl
theorem ds_continue {X : Cx} {c : Cc} {pos : Pos} : DS X c (.Continue pos) (fun e => .cnt e) := psImp ps_continue fun D σ H q => by
  obtain ⟨en, Hf, E, q⟩ := q
  exact q _ _ _ E Ext.refl
def sAsg (L : Nat) (m : DM Val) (t : Tgt) : SM := fun e => (m e).stm fun v e1 => (tgV L t v e1).stm fun _ e2 => .nx e2
theorem PostT.ofS {c : Cc} {s0 : DSt} {r : DRes Unit} {D : Ends} (h : PostS c s0 (r.stm fun _ e2 => .nx e2) D) : PostT c s0 r D.nx := by
  cases r with
  | ok a e => exact h
  | exc x e => exact h
  | bad => exact h
theorem rd_asg {c : Cc} {m : DM Val} {t : Tgt} {D : Ends} {σ : L2.St} {H : Hp} (q : tS c (sAsg c.L m t) D σ H) : tAsg (tR c (rV c) m) (tG c t) D σ H := by
  obtain ⟨en, Hf, E, q⟩ := q
  refine ⟨en, Hf, E, Post.mono (PostS.val (rel := rV c) q) fun v H1 w => ?_⟩
  obtain ⟨a, e1, Hf1, E1, X1, r1, q1⟩ := w
  exact ⟨_, a, e1, Hf1, E1, X1, r1, PostT.ofS q1⟩
theorem ds_asg {X : Cx} {c : Cc} {tg e : Expr} {m : DM Val} {t : Tgt} {pos : Pos} (he : DE X c e m) (hg : DG X c tg t) (hs : swapsWithSole [tg] e pos.line X.env = pure false) (hw : swappedStores [tg] e X.env = pure none) (h1 : (assignEach [tg] X.env).map (·.2) = [assign tg X.env]) :
    DS X c (.Assign [tg] e pos) (sAsg c.L m t) := psImp (ps_asg he hg hs hw h1) fun D σ H q => rd_asg q
end DL

/-! DL8: what is walked, for, list comprehensions, while, by deep values. -/
namespace DL
open PySem PySem.Spec PyProof.Rows L2
variable {T : Tb}

/-- J gives, turn by turn, values that stand for ds, while what is frozen stays -/
structure ItD (T : Tb) (K : PySem.W.Frag) (J : It) (ds : List D) (Hf Hx : Hp) : Prop where
  go : ∀ i H, i < ds.length → Same Hx H → J.go i H
  stop : ∀ H, Same Hx H → J.stop ds.length H
  yld : ∀ (L i : Nat) (d : D) (s : DSt) (x : V) (H' : Hp), ds[i]? = some d → ER T K s → Same Hf s.fr → Same Hx s.hp → J.yld i s.hp x H' → ∃ Hf', ER T K ⟨s.st, s.en, H', Hf'⟩ ∧ Ext L s ⟨s.st, s.en, H', Hf'⟩ ∧ Dr K Hf' x d
def PostI (c : Cc) (s0 : DSt) (r : DRes (List D)) (R : It → Hp → Prop) : Prop :=
  match r with
  | .ok ds e => ∀ J H' Hf', ER c.T c.K ⟨s0.st, e, H', Hf'⟩ → Ext c.L s0 ⟨s0.st, e, H', Hf'⟩ → ItD c.T c.K J ds Hf' Hf' → R J H'
  | .exc x e => ∀ C dx H' Hf', ER c.T c.K ⟨s0.st, e, H', Hf'⟩ → Ext c.L s0 ⟨s0.st, e, H', Hf'⟩ → XR c ⟨s0.st, e, H', Hf'⟩ C dx x → c.W C dx s0.st H'
  | .bad => False
def tI (c : Cc) (m : DM (List D)) : TI := fun σ H R => ∃ e Hf, ER c.T c.K ⟨σ, e, H, Hf⟩ ∧ PostI c ⟨σ, e, H, Hf⟩ (m e) R
def DI (X : Cx) (c : Cc) (tg iter : Expr) (m : DM (List D)) : Prop := PI X tg iter (tI c m)
theorem piImp {X : Cx} {tg e : Expr} {t t' : TI} (h : PI X tg e t) (i : ∀ σ H R, t' σ H R → t σ H R) : PI X tg e t' := ⟨fun pins s σ H R I q => h.run pins s σ H R I (i σ H R q)⟩
/-- a list or a tuple, whichever it is -/
def iSeq (K : PySem.W.Frag) (t : TE) : TI := fun σ H R => t σ H fun x H1 => ∃ a, x = .ref a ∧ (((∃ xs, SqL K H1 a xs) ∧ R (Itl K a) H1) ∨ ((∃ xs, SqT K H1 a xs) ∧ R (Itt K a) H1))
theorem pi_seq {X : Cx} {tg e : Expr} {t : TE} (h : PE X e t) : PI X tg e (iSeq X.K t) := by
  refine ⟨fun pins s σ H R I q => thn (h.run pins s σ H _ I q) fun w s1 ⟨y, Hy, Iy, ry, ay, ey, alt⟩ => ?_⟩
  subst ey
  cases ry
  have fresh : ∀ b ∈ [s1.heap.objs.size], FpOk X pins Hy b := fun b hb => by
    rw [List.mem_singleton] at hb
    rw [hb]
    exact Iy.fpOk (Nat.le_refl _) (Iy.hok.fresh (Nat.le_refl _))
  rcases alt with ⟨⟨ys, hy⟩, rr⟩ | ⟨⟨ys, hy⟩, rr⟩
  · obtain ⟨vals, rv, pl, _⟩ := Iy.list hy
    exact wpAny_pyIter_list pl.isList ⟨s1.heap.objs.size, [_], _, _, Hy, rfl, Iy.kept (t' := s1.toks) (fun _ _ z => Heap.get?_push_of_some _ z), turn_list ay _, ⟨_, Heap.get?_push_size _ rfl, rfl, rfl⟩, fresh, rr⟩
  · obtain ⟨vals, rv, pt, _⟩ := Iy.tuple hy
    exact wpAny_pyIter_tuple (show s1.heap.IsTuple ay vals.toArray from pt) ⟨s1.heap.objs.size, [_], _, _, Hy, rfl, Iy.kept (t' := s1.toks) (fun _ _ z => Heap.get?_push_of_some _ z), turn_tuple ay _, ⟨_, Heap.get?_push_size _ rfl, rfl, rfl⟩, fresh, rr⟩
theorem itd_list {K : PySem.W.Frag} {a : Addr} {xs : List V} {ds : List D} {Hf Hx : Hp} (h : Hx a = some (.lst xs)) (r : DrA K Hf xs ds) : ItD T K (Itl K a) ds Hf Hx where
  go := fun i H hi sm => by
    obtain ⟨x, e⟩ : ∃ x, xs[i]? = some x := ⟨xs[i]'(by rw [DrA.len r]; exact hi), by simp⟩
    exact ⟨xs, x, SqL.of (sm _ _ h), e⟩
  stop := fun H sm => ⟨xs, SqL.of (sm _ _ h), by rw [DrA.len r]; exact Nat.le_refl _⟩
  yld := fun L i d s x H' hd E sm smx y => by
    obtain ⟨e, y⟩ := y
    subst e
    obtain ⟨v, h1, h2⟩ := DrA.get r hd
    have e2 := y xs (SqL.of (smx _ _ h))
    rw [h1] at e2
    cases e2
    exact ⟨s.fr, E, Ext.refl, h2.same sm⟩
theorem itd_tup {K : PySem.W.Frag} {a : Addr} {xs : List V} {ds : List D} {Hf : Hp} (h : SqT K Hf a xs) (r : DrA K Hf xs ds) : ItD T K (Itt K a) ds Hf Hf where
  go := fun i H hi sm => by
    obtain ⟨x, e⟩ : ∃ x, xs[i]? = some x := ⟨xs[i]'(by rw [DrA.len r]; exact hi), by simp⟩
    exact ⟨xs, x, sameT sm h, e⟩
  stop := fun H sm => ⟨xs, sameT sm h, by rw [DrA.len r]; exact Nat.le_refl _⟩
  yld := fun L i d s x H' hd E sm _ y => by
    obtain ⟨e, y⟩ := y
    subst e
    obtain ⟨v, h1, h2⟩ := DrA.get r hd
    have e2 := y xs (sameT E.sub (sameT sm h))
    rw [h1] at e2
    cases e2
    exact ⟨s.fr, E, Ext.refl, h2.same sm⟩
def mSeqIt (m : DM D) : DM (List D) := fun e => (m e).andThen fun d e1 => match d with
  | .list ds => .ok ds e1
  | .tuple ds => .ok ds e1
  | _ => .bad
theorem di_seq {X : Cx} {c : Cc} {tg e : Expr} {m : DM D} (hK : c.K = X.K) (h : DD X c e m) : DI X c tg e (mSeqIt m) := piImp (pi_seq h) fun σ H R q => by
  obtain ⟨en, Hf, E, q⟩ := q
  refine ⟨en, Hf, E, ?_⟩
  unfold mSeqIt at q
  cases hm : m en with
  | bad => rw [hm] at q; exact q
  | exc x e1 => rw [hm] at q; exact q
  | ok d e1 =>
    rw [hm] at q
    intro v H1 Hf1 E1 X1 r1
    have r2 : Dr c.K Hf1 v d := r1
    clear hm r1
    cases r2 with
    | lst h1 h2 => exact ⟨_, rfl, .inl ⟨⟨_, SqL.of (E1.sub _ _ h1)⟩, q _ _ _ E1 X1 (by rw [hK] at *; exact itd_list h1 h2)⟩⟩
    | tup h1 h2 => exact ⟨_, rfl, .inr ⟨⟨_, sameT E1.sub (by rw [hK] at h1; exact h1)⟩, q _ _ _ E1 X1 (by rw [hK] at *; exact itd_tup h1 h2)⟩⟩
    | _ => exact q.elim
/-- range -/
def rangeD (lo : Int) (n : Nat) : List D := (List.range n).map fun (k : Nat) => .int (lo + (k : Int))
theorem itd_range {K : PySem.W.Frag} {lo : Int} {n : Nat} {Hf : Hp} : ItD T K (Itr lo n) (rangeD lo n) Hf Hf where
  go := fun i H hi _ => by
    show i < n
    simpa [rangeD] using hi
  stop := fun H _ => by simp [rangeD, Itr]
  yld := fun L i d s x H' hd E sm _ y => by
    obtain ⟨e, y⟩ := y
    subst e
    subst y
    refine ⟨s.fr, E, Ext.refl, ?_⟩
    unfold rangeD at hd
    rw [List.getElem?_map] at hd
    cases hr : (List.range n)[i]? with
    | none => rw [hr] at hd; cases hd
    | some k =>
      rw [hr] at hd
      cases hd
      have hk := List.getElem?_eq_some_iff.mp hr
      obtain ⟨hk1, hk2⟩ := hk
      rw [List.getElem_range] at hk2
      subst hk2
      exact Dr.int _
def mRange1 (o : Opd) : DM (List D) := fun e => (o.ev e).andThen fun x e1 => match o.now x e1 with
  | some (.int j) => if -(2 ^ 62) ≤ j ∧ j < 2 ^ 62 then .ok (rangeD 0 j.toNat) e1 else .bad
  | _ => .bad
theorem PostI.step {c : Cc} {α β : Type} {rel : DSt → DSt → β → α → Prop} {s0 : DSt} {r : DRes α} {k : α → DM (List D)} {R : It → Hp → Prop} (h : PostI c s0 (r.andThen k) R) :
    Post c rel s0 r (fun b H1 => ∃ a e Hf1, ER c.T c.K ⟨s0.st, e, H1, Hf1⟩ ∧ Ext c.L s0 ⟨s0.st, e, H1, Hf1⟩ ∧ rel s0 ⟨s0.st, e, H1, Hf1⟩ b a ∧ PostI c s0 (k a e) R) := by
  cases r with
  | ok a e => exact fun b H' Hf' E X q => ⟨a, e, Hf', E, X, q, h⟩
  | exc x e => exact fun C dx H' Hf' E X q => h C dx H' Hf' E X q
  | bad => exact h
theorem PostI.base {c : Cc} {s0 s1 : DSt} {r : DRes (List D)} {R : It → Hp → Prop} (X : Ext c.L s0 s1) (e : s1.st = s0.st) (h : PostI c s0 r R) : PostI c s1 r R := by
  obtain ⟨st1, en1, hp1, fr1⟩ := s1
  obtain rfl : st1 = s0.st := e
  cases r with
  | ok a e => exact fun J H' Hf' E X' q => h J H' Hf' E (X.trans X') q
  | exc x e => exact fun C dx H' Hf' E X' q => h C dx H' Hf' E (X.trans X') q
  | bad => exact h
/-- one operand of what is walked -/
theorem opd_stepI {c : Cc} {σ : L2.St} {e : DEnv} {H Hf : Hp} {o : Opd} {k : Option D → DM (List D)} {R : It → Hp → Prop} (E : ER c.T c.K ⟨σ, e, H, Hf⟩) (q : PostI c ⟨σ, e, H, Hf⟩ ((o.ev e).andThen k) R) :
    tOpd c o σ H (fun v H1 => ∃ x e1 Hf1, ER c.T c.K ⟨σ, e1, H1, Hf1⟩ ∧ Ext c.L ⟨σ, e, H, Hf⟩ ⟨σ, e1, H1, Hf1⟩ ∧ OR c.K ⟨σ, e1, H1, Hf1⟩ o v x ∧ PostI c ⟨σ, e1, H1, Hf1⟩ (k x e1) R) := by
  cases o with
  | nm i =>
    unfold Opd.ev at q
    cases h : slotD e i with
    | none => simp only [h] at q; exact q.elim
    | some d =>
      simp only [h] at q
      obtain ⟨v, h1, h2⟩ := slotD_ok E h
      exact ⟨v, h1, none, e, Hf, E, Ext.refl, h1, q⟩
  | ex md =>
    refine ⟨e, Hf, E, ?_⟩
    have q' : PostI c ⟨σ, e, H, Hf⟩ ((md e).andThen fun d e1 => k (some d) e1) R := by
      unfold Opd.ev at q
      cases h : md e with
      | bad => simp only [h] at q; exact q
      | exc x e1 => simp only [h] at q; exact q
      | ok d e1 => simp only [h] at q; exact q
    refine Post.mono (PostI.step (rel := rD c) q') fun v H1 w => ?_
    obtain ⟨d, e1, Hf1, E1, X1, r1, q1⟩ := w
    exact ⟨some d, e1, Hf1, E1, X1, ⟨d, rfl, r1⟩, PostI.base X1 rfl q1⟩
theorem di_range1 {X : Cx} {c : Cc} {tg a : Expr} {o : Opd} {p pos : Pos} (hg : Gl X "range") (hm : X.mg "range" = none) (ha : DO X c a o) (hs : starEach [a] X.env = [(false, eval a X.env)]) : DI X c tg (.Call (.Name "range" p) [a] [] pos) (mRange1 o) :=
  piImp (pi_range1 hg hm (pa_cons ha pa_nil hs) hs) fun σ H R q => by
    obtain ⟨e, Hf, E, q⟩ := q
    refine tOpd_mono (opd_stepI E q) fun v H1 w => ?_
    obtain ⟨x, e1, Hf1, E1, X1, r1, q1⟩ := w
    cases hx : o.now x e1 with
    | none => simp only [hx] at q1; exact q1.elim
    | some d =>
      simp only [hx] at q1
      have db := OR.now E1 r1 hx
      cases db with
      | int j =>
        by_cases hc : -(2 ^ 62) ≤ j ∧ j < 2 ^ 62
        · dsimp only at q1
          rw [if_pos hc] at q1
          exact ⟨j, rfl, hc.1, hc.2, q1 _ _ _ E1 Ext.refl itd_range⟩
        · dsimp only at q1
          rw [if_neg hc] at q1
          exact q1.elim
      | _ => exact q1.elim
def mRange2 (a b : Opd) : DM (List D) := fun e => (a.ev e).andThen fun x e1 => (b.ev e1).andThen fun y e2 => match a.now x e2, b.now y e2 with
  | some (.int i), some (.int j) => if (-(2 ^ 62) ≤ i ∧ i < 2 ^ 62) ∧ (-(2 ^ 62) ≤ j ∧ j < 2 ^ 62) then .ok (rangeD i (j - i).toNat) e2 else .bad
  | _, _ => .bad
theorem di_range2 {X : Cx} {c : Cc} {tg a b : Expr} {oa ob : Opd} {p pos : Pos} (hg : Gl X "range") (hm : X.mg "range" = none) (ha : DO X c a oa) (hb : DO X c b ob) (hs : starEach [a, b] X.env = [(false, eval a X.env), (false, eval b X.env)]) (hs2 : starEach [b] X.env = [(false, eval b X.env)]) :
    DI X c tg (.Call (.Name "range" p) [a, b] [] pos) (mRange2 oa ob) :=
  piImp (pi_range2 hg hm (pa_cons ha (pa_cons hb pa_nil hs2) (by rw [hs, hs2])) hs hs2) fun σ H R q => by
    obtain ⟨e, Hf, E, q⟩ := q
    refine tOpd_mono (opd_stepI E q) fun v H1 w => ?_
    obtain ⟨x, e1, Hf1, E1, X1, r1, q1⟩ := w
    refine tOpd_mono (opd_stepI E1 q1) fun u H2 w2 => ?_
    obtain ⟨y, e2, Hf2, E2, X2, r2, q2⟩ := w2
    have r1' := OR.keep X2 rfl r1
    cases hx : oa.now x e2 with
    | none => simp only [hx] at q2; exact q2.elim
    | some d =>
      cases hy : ob.now y e2 with
      | none => simp only [hx, hy] at q2; cases d <;> exact q2.elim
      | some d' =>
        simp only [hx, hy] at q2
        have db := OR.now E2 r1' hx
        have db' := OR.now E2 r2 hy
        cases db with
        | int i =>
          cases db' with
          | int j =>
            by_cases hc : (-(2 ^ 62) ≤ i ∧ i < 2 ^ 62) ∧ (-(2 ^ 62) ≤ j ∧ j < 2 ^ 62)
            · dsimp only at q2
              rw [if_pos hc] at q2
              exact ⟨i, j, rfl, ⟨hc.1.1, hc.1.2, hc.2.1, hc.2.2⟩, q2 _ _ _ E2 Ext.refl itd_range⟩
            · dsimp only at q2
              rw [if_neg hc] at q2
              exact q2.elim
          | _ => exact q2.elim
        | _ => exact q2.elim

/-! ### for -/
def forL (L : Nat) (t : Tgt) (body : SM) : List D → SM
  | [] => fun e => .nx e
  | d :: r => fun e => (tgV L t (.fz d) e).stm fun _ e1 => match body e1 with
    | .nx e2 => forL L t body r e2
    | .cnt e2 => forL L t body r e2
    | .brk e2 => .nx e2
    | s => s
def sFor (L : Nat) (it : DM (List D)) (t : Tgt) (body : SM) : SM := fun e => (it e).stm fun ds e1 => forL L t body ds e1
theorem PostS.it {c : Cc} {s0 : DSt} {r : DRes (List D)} {k : List D → SM} {D : Ends} (h : PostS c s0 (r.stm k) D) :
    PostI c s0 r (fun J H1 => ∃ ds e Hf1, ER c.T c.K ⟨s0.st, e, H1, Hf1⟩ ∧ Ext c.L s0 ⟨s0.st, e, H1, Hf1⟩ ∧ ItD c.T c.K J ds Hf1 Hf1 ∧ PostS c s0 (k ds e) D) := by
  cases r with
  | ok a e => exact fun J H' Hf' E X q => ⟨a, e, Hf', E, X, q, h⟩
  | exc x e => exact fun C dx H' Hf' E X q => h C dx _ H' Hf' E X q
  | bad => exact h
theorem PostI.mono {c : Cc} {s0 : DSt} {r : DRes (List D)} {R R' : It → Hp → Prop} (h : PostI c s0 r R) (hr : ∀ J H, R J H → R' J H) : PostI c s0 r R' := by
  cases r with
  | ok a e => exact fun J H' Hf' E X q => hr _ _ (h J H' Hf' E X q)
  | exc x e => exact h
  | bad => exact h
theorem drop_cons {α : Type} {l : List α} {i : Nat} (h : i < l.length) : l.drop i = l[i] :: l.drop (i + 1) := by
  rw [List.drop_eq_getElem_cons h]
theorem rd_for {c : Cc} {it : DM (List D)} {t : Tgt} {body : SM} {D : Ends} {σ : L2.St} {H : Hp} (q : tS c (sFor c.L it t body) D σ H) : tFor (tI c it) (tG c t) (tS c body) D σ H := by
  obtain ⟨en, Hf, E, q⟩ := q
  refine ⟨en, Hf, E, PostI.mono (PostS.it q) fun J H1 w => ?_⟩
  obtain ⟨ds, e1, Hf1, E1, X1, IT, q1⟩ := w
  have q1 := PostS.base X1 q1
  refine ⟨fun i m σ' H' => m = ds.length - i ∧ i ≤ ds.length ∧ ∃ e Hf', ER c.T c.K ⟨σ', e, H', Hf'⟩ ∧ Same Hf1 Hf' ∧ PostS c ⟨σ', e, H', Hf'⟩ (forL c.L t body (ds.drop i) e) D, ⟨ds.length, by omega, by omega, e1, Hf1, E1, Same.refl _, by simpa using q1⟩, ?_⟩
  rintro i m σ' H' ⟨hm, hi, e, Hf', E', sm, q'⟩
  by_cases hlt : i < ds.length
  · refine .inr ⟨IT.go i H' hlt (sm.trans E'.sub), ?_⟩
    rw [drop_cons hlt] at q'
    unfold forL at q'
    refine ⟨fun σ2 H2 => ∃ e2 Hf2, ER c.T c.K ⟨σ2, e2, H2, Hf2⟩ ∧ Same Hf1 Hf2 ∧ PostS c ⟨σ2, e2, H2, Hf2⟩ (forL c.L t body (ds.drop (i + 1)) e2) D, fun σ2 H2 h => ⟨ds.length - (i + 1), by omega, rfl, by omega, h⟩, fun x H2 y => ?_⟩
    obtain ⟨Hf2, E2, X2, r2⟩ := IT.yld c.L i ds[i] ⟨σ', e, H', Hf'⟩ x H2 (List.getElem?_eq_getElem hlt) E' sm (sm.trans E'.sub) y
    refine ⟨⟨σ', e, H2, Hf2⟩, .fz ds[i], e, Hf2, E2, Ext.refl, r2, ?_⟩
    have q2 := PostS.base X2 q'
    have sm2 : Same Hf1 Hf2 := sm.trans X2.keep
    cases hg : tgV c.L t (.fz ds[i]) e with
    | bad => rw [hg] at q2; exact q2.elim
    | exc x e3 => rw [hg] at q2; exact q2
    | ok a e3 =>
      rw [hg] at q2
      intro σ3 H3 Hf3 E3 X3
      refine ⟨e3, Hf3, E3, ?_⟩
      have q3 : PostS c ⟨σ', e, H2, Hf2⟩ (match body e3 with | .nx e2 => forL c.L t body (ds.drop (i + 1)) e2 | .cnt e2 => forL c.L t body (ds.drop (i + 1)) e2 | .brk e2 => .nx e2 | s => s) D := q2
      have q4 := PostS.base X3 q3
      have sm3 : Same Hf1 Hf3 := sm2.trans X3.keep
      cases hb : body e3 with
      | nx e4 =>
        rw [hb] at q4
        exact fun σ4 H4 Hf4 E4 X4 => ⟨e4, Hf4, E4, sm3.trans X4.keep, PostS.base X4 q4⟩
      | cnt e4 =>
        rw [hb] at q4
        exact fun σ4 H4 Hf4 E4 X4 => ⟨e4, Hf4, E4, sm3.trans X4.keep, PostS.base X4 q4⟩
      | brk e4 =>
        rw [hb] at q4
        exact q4
      | rt v e4 =>
        rw [hb] at q4
        exact q4
      | exc x e4 =>
        rw [hb] at q4
        exact q4
      | bad =>
        rw [hb] at q4
        exact q4
  · have e0 : i = ds.length := by omega
    subst e0
    rw [List.drop_length] at q'
    exact .inl ⟨IT.stop H' (sm.trans E'.sub), q' _ _ _ E' Ext.refl⟩
theorem ds_for {X : Cx} {c : Cc} {tg iter : Expr} {body : List Stmt} {it : DM (List D)} {t : Tgt} {mb : SM} {pos : Pos} (hp : PassesOwn (model X.prog X.w) X.A X.env X.xe) (hc : X.calm = true) (hi : DI X c tg iter it) (hg : DG X c tg t) (hb : DSs X c body mb) (hs : ∀ x, foldedSetIterable iter X.env x = pure x) :
    DS X c (.For tg iter body [] pos) (sFor c.L it t mb) := psImp (ps_for hp hc hi hg hb hs) fun D σ H q => rd_for q
end DL

/-! DL9: list comprehensions, by deep values. -/
namespace DL
open PySem PySem.Spec PyProof.Rows L2
variable {T : Tb}

/-- a comprehension's target: a name, names of a tuple -/
inductive CT where
  | nm (i : Nat)
  | tup (is : List Nat)
def CT.is : CT → List Nat
  | .nm i => [i]
  | .tup is => is
def gNames : List Nat → TGs
  | [] => gNil
  | i :: r => gCons (gName i) (gNames r)
def gCT (K : PySem.W.Frag) : CT → TG
  | .nm i => gName i
  | .tup is => gTup K is.length (gNames is)
def putE (e : DEnv) : List Nat → List D → DEnv
  | i :: r, d :: ds => putE (e.set i (.fz d)) r ds
  | _, _ => e
def putS (σ : L2.St) : List Nat → List V → L2.St
  | i :: r, v :: vs => putS (σ.set i (some v)) r vs
  | _, _ => σ
def ctV : CT → D → DEnv → Option DEnv
  | .nm i, d, e => some (e.set i (.fz d))
  | .tup is, .tuple ds, e => if ds.length = is.length then some (putE e is ds) else none
  | .tup _, _, _ => none
def wipeE (e : DEnv) : List Nat → DEnv
  | [] => e
  | v :: vs => (wipeE e vs).set v .no
def restE (e1 e2 : DEnv) : List Nat → DEnv
  | [] => e2
  | v :: vs => (restE e1 e2 vs).set v (e1.getD v .no)
theorem wipeE_len (e : DEnv) : ∀ vs, (wipeE e vs).length = e.length
  | [] => rfl
  | v :: vs => by unfold wipeE; rw [List.length_set, wipeE_len e vs]
theorem restE_len (e1 e2 : DEnv) : ∀ vs, (restE e1 e2 vs).length = e2.length
  | [] => rfl
  | v :: vs => by unfold restE; rw [List.length_set, restE_len e1 e2 vs]
theorem wipeE_get {e : DEnv} {j : Nat} {cl : Cell} (hn : cl ≠ .no) : ∀ {vs : List Nat}, (wipeE e vs)[j]? = some cl → e[j]? = some cl ∧ j ∉ vs
  | [], h => ⟨h, by simp⟩
  | v :: vs, h => by
    unfold wipeE at h
    by_cases hj : v = j
    · subst hj
      by_cases hl : v < (wipeE e vs).length
      · rw [List.getElem?_set_self hl] at h
        exact absurd (Option.some.inj h).symm hn
      · rw [List.getElem?_eq_none (by rw [List.length_set]; omega)] at h
        cases h
    · rw [List.getElem?_set_ne hj] at h
      obtain ⟨h1, h2⟩ := wipeE_get hn h
      exact ⟨h1, by simp [Ne.symm hj, h2]⟩
theorem wipe_get {σ : L2.St} {j : Nat} : ∀ {vs : List Nat}, j ∉ vs → (wipe σ vs)[j]? = σ[j]?
  | [], _ => rfl
  | v :: vs, h => by
    simp at h
    unfold wipe
    rw [List.getElem?_set_ne (Ne.symm h.1)]
    exact wipe_get h.2
theorem restE_get {e1 e2 : DEnv} {j : Nat} {cl : Cell} : ∀ {vs : List Nat}, (restE e1 e2 vs)[j]? = some cl → (j ∈ vs ∧ e1.getD j .no = cl) ∨ (j ∉ vs ∧ e2[j]? = some cl)
  | [], h => .inr ⟨by simp, h⟩
  | v :: vs, h => by
    unfold restE at h
    by_cases hj : v = j
    · subst hj
      have hl : v < (restE e1 e2 vs).length := by
        have := (List.getElem?_eq_some_iff.mp h).1
        rwa [List.length_set] at this
      rw [List.getElem?_set_self hl] at h
      exact .inl ⟨by simp, Option.some.inj h⟩
    · rw [List.getElem?_set_ne hj] at h
      rcases restE_get h with ⟨h1, h2⟩ | ⟨h1, h2⟩
      · exact .inl ⟨by simp [h1], h2⟩
      · exact .inr ⟨by simp [Ne.symm hj, h1], h2⟩
theorem getD_cell {e : DEnv} {j : Nat} {cl : Cell} (hn : cl ≠ .no) (h : e.getD j .no = cl) : e[j]? = some cl := by
  rw [List.getD_eq_getElem?_getD] at h
  cases q : e[j]? with
  | none => rw [q] at h; exact absurd h.symm hn
  | some c => rw [q] at h; exact congrArg some h
/-- the block's own slots forgotten -/
theorem ER.wiped {K : PySem.W.Frag} {s : DSt} (E : ER T K s) (vs : List Nat) : ER T K ⟨wipe s.st vs, wipeE s.en vs, s.hp, s.fr⟩ ∧ ∀ a, Own ⟨wipe s.st vs, wipeE s.en vs, s.hp, s.fr⟩ a → Own s a := by
  have back : ∀ (j : Nat) (cl : Cell), (wipeE s.en vs)[j]? = some cl → cl ≠ .no → s.en[j]? = some cl ∧ (wipe s.st vs)[j]? = s.st[j]? := fun j cl h hn => by
    obtain ⟨h1, h2⟩ := wipeE_get hn h
    exact ⟨h1, wipe_get h2⟩
  refine ⟨⟨by rw [wipeE_len, wipe_length]; exact E.len, E.sub, fun j d h => ?_, fun j ds h => ?_, fun j k ds es a h1 h2 h3 h4 => ?_, E.tb⟩, fun a ⟨j, ds, h1, h2⟩ => ?_⟩
  · obtain ⟨h1, h2⟩ := back j _ h (by simp)
    obtain ⟨v, g1, g2⟩ := E.fz j d h1
    exact ⟨v, h2.trans g1, g2⟩
  · obtain ⟨h1, h2⟩ := back j _ h (by simp)
    obtain ⟨a, xs, g1, g2⟩ := E.ow j ds h1
    exact ⟨a, xs, h2.trans g1, g2⟩
  · obtain ⟨g1, g2⟩ := back j _ h1 (by simp)
    obtain ⟨r1, r2⟩ := back k _ h2 (by simp)
    exact E.inj j k ds es a g1 r1 (g2.symm.trans h3) (r2.symm.trans h4)
  · obtain ⟨g1, g2⟩ := back j _ h1 (by simp)
    exact ⟨j, ds, g1, g2.symm.trans h2⟩
theorem Ext.wiped {K : PySem.W.Frag} {L : Nat} {s : DSt} (E : ER T K s) {vs : List Nat} (hv : ∀ v ∈ vs, L ≤ v) : Ext L s ⟨wipe s.st vs, wipeE s.en vs, s.hp, s.fr⟩ :=
  ⟨Same.refl _, fun a f => ⟨⟨f.1, f.2.1, fun o => f.2.2 ((E.wiped vs).2 a o)⟩, rfl⟩, fun i hi => wipe_get fun h => by have := hv i h; omega⟩
/-- a frozen value goes into a slot -/
theorem ER.putF {K : PySem.W.Frag} {L : Nat} {s : DSt} (E : ER T K s) {v : V} {d : D} (r : Dr K s.fr v d) {i : Nat} (hi : L ≤ i) : ER T K ⟨s.st.set i (some v), s.en.set i (.fz d), s.hp, s.fr⟩ ∧ Ext L s ⟨s.st.set i (some v), s.en.set i (.fz d), s.hp, s.fr⟩ :=
  E.put (s0 := s) (val := .fz d) Ext.refl r hi
theorem putS_ok {K : PySem.W.Frag} {L : Nat} {H Hf : Hp} : ∀ (is : List Nat) (vs : List V) (ds : List D) (σ : L2.St) (e : DEnv), ER T K ⟨σ, e, H, Hf⟩ → DrA K Hf vs ds → (∀ i ∈ is, L ≤ i) → ER T K ⟨putS σ is vs, putE e is ds, H, Hf⟩ ∧ Ext L ⟨σ, e, H, Hf⟩ ⟨putS σ is vs, putE e is ds, H, Hf⟩
  | [], vs, ds, σ, e, E, r, hl => by
    cases r <;> exact ⟨E, Ext.refl⟩
  | i :: is, _, _, σ, e, E, .nil, hl => ⟨E, Ext.refl⟩
  | i :: is, _, _, σ, e, E, .cons h r, hl => by
    obtain ⟨E1, X1⟩ := E.putF (L := L) h (hl i (by simp))
    obtain ⟨E2, X2⟩ := putS_ok is _ _ _ _ E1 r (fun j hj => hl j (by simp [hj]))
    exact ⟨E2, X1.trans X2⟩
theorem set_wipe {σ : L2.St} {i : Nat} {v : Option V} : ∀ {vs : List Nat}, i ∈ vs → wipe (σ.set i v) vs = wipe σ vs
  | [], h => by simp at h
  | w :: vs, h => by
    unfold wipe
    by_cases hi : i ∈ vs
    · rw [set_wipe hi]
    · have e : i = w := by simpa [hi] using h
      subst e
      have k : ∀ (vs : List Nat) (σ : L2.St), i ∉ vs → wipe (σ.set i v) vs = (wipe σ vs).set i v := by
        intro vs
        induction vs with
        | nil => intro σ _; rfl
        | cons u us ih =>
          intro σ hu
          simp at hu
          unfold wipe
          rw [ih σ hu.2, List.set_comm _ _ hu.1]
      rw [k vs σ hi, List.set_set]
theorem put_wipe : ∀ (is : List Nat) (vs : List V) (σ : L2.St) (ws : List Nat), (∀ i ∈ is, i ∈ ws) → wipe (putS σ is vs) ws = wipe σ ws
  | [], vs, σ, ws, h => by cases vs <;> rfl
  | i :: is, [], σ, ws, h => rfl
  | i :: is, v :: vs, σ, ws, h => by
    unfold putS
    rw [put_wipe is vs _ ws (fun j hj => h j (by simp [hj])), set_wipe (h i (by simp))]
theorem wipe_wipe (σ : L2.St) (vs : List Nat) : wipe (wipe σ vs) vs = wipe σ vs := by
  have k : ∀ (us : List Nat), (∀ u ∈ us, u ∈ vs) → ∀ τ : L2.St, (∀ j, j ∉ vs → τ[j]? = σ[j]?) → τ.length = σ.length → wipe τ vs = wipe σ vs := by
    intro us _ τ h hl
    apply List.ext_getElem?
    intro j
    by_cases hj : j ∈ vs
    · have nn : ∀ (ρ : L2.St) (ws : List Nat), j ∈ ws → (wipe ρ ws)[j]? = if j < ρ.length then some none else none := by
        intro ρ ws
        induction ws with
        | nil => intro h; simp at h
        | cons w ws ih =>
          intro hm
          unfold wipe
          by_cases e : w = j
          · subst e
            by_cases hlt : w < ρ.length
            · rw [List.getElem?_set_self (by rw [wipe_length]; exact hlt), if_pos hlt]
            · rw [List.getElem?_eq_none (by rw [List.length_set, wipe_length]; omega), if_neg hlt]
          · rw [List.getElem?_set_ne e]
            exact ih (by simpa [Ne.symm e] using hm)
      rw [nn τ vs hj, nn σ vs hj, hl]
    · rw [wipe_get hj, wipe_get hj]
      exact h j hj
  exact k [] (by simp) _ (fun j hj => wipe_get hj) (wipe_length _ _)
theorem rd_ct {K : PySem.W.Frag} {L : Nat} {t : CT} {σ : L2.St} {e e' : DEnv} {H Hf : Hp} {x : V} {d : D} {Q : L2.St → Hp → Prop} (E : ER T K ⟨σ, e, H, Hf⟩) (r : Dr K Hf x d) (hl : ∀ i ∈ t.is, L ≤ i) (h : ctV t d e = some e')
    (q : ∀ σ', ER T K ⟨σ', e', H, Hf⟩ → Ext L ⟨σ, e, H, Hf⟩ ⟨σ', e', H, Hf⟩ → wipe σ' t.is = wipe σ t.is → Q σ' H) : gCT K t x σ H Q := by
  cases t with
  | nm i =>
    cases h
    obtain ⟨E1, X1⟩ := E.putF (L := L) r (hl i (by simp [CT.is]))
    exact q _ E1 X1 (set_wipe (by simp [CT.is]))
  | tup is =>
    cases d with
    | tuple ds =>
      unfold ctV at h
      dsimp only at h
      by_cases hn : ds.length = is.length
      · rw [if_pos hn] at h
        cases h
        cases r with
        | tup h1 h2 =>
          rename_i a xs
          obtain ⟨E1, X1⟩ := putS_ok (L := L) is xs ds σ e E h2 hl
          refine ⟨a, xs, rfl, sameT E.sub h1, by rw [DrA.len h2, hn], ?_⟩
          have key : ∀ (is : List Nat) (xs : List V) (σ : L2.St), xs.length = is.length → Q (putS σ is xs) H → gNames is xs σ H Q := by
            intro is
            induction is with
            | nil =>
              intro xs σ hl hq
              cases xs with
              | nil => exact ⟨rfl, hq⟩
              | cons x xs => simp at hl
            | cons i is ih =>
              intro xs σ hl hq
              cases xs with
              | nil => simp at hl
              | cons x xs => exact ⟨x, xs, rfl, ih xs _ (by simpa using hl) hq⟩
          exact key is xs σ (by rw [DrA.len h2, hn]) (q _ E1 X1 (put_wipe is xs σ _ (fun i hi => hi)))
      · rw [if_neg hn] at h; cases h
    | _ => simp [ctV] at h
/-- the turns -/
def compL (t : CT) (cond : DM Bool) (elt : DM D) : List D → List D → DM (List D)
  | [], acc => fun e => .ok acc e
  | d :: r, acc => fun e => match ctV t d e with
    | none => .bad
    | some e1 => match cond e1 with
      | .ok true e2 => match elt e2 with
        | .ok y e3 => compL t cond elt r (acc ++ [y]) (wipeE e3 t.is)
        | _ => .bad
      | .ok false e2 => compL t cond elt r acc (wipeE e2 t.is)
      | _ => .bad
def mComp (it : DM (List D)) (t : CT) (cond : DM Bool) (elt : DM D) : DM Val := fun e => (it e).andThen fun ds e1 => if ds.length ≤ 1000000 then match compL t cond elt ds [] (wipeE e1 t.is) with
    | .ok acc e2 => .ok (.ow acc) (restE e1 e2 t.is)
    | _ => .bad
  else .bad
def mYes : DM Bool := fun e => .ok true e
theorem Post.it {c : Cc} {α β : Type} {rel : DSt → DSt → β → α → Prop} {s0 : DSt} {r : DRes (List D)} {k : List D → DM α} {Q : β → Hp → Prop} (m : Mono c.L rel) (h : Post c rel s0 (r.andThen k) Q) :
    PostI c s0 r (fun J H1 => ∃ ds e Hf1, ER c.T c.K ⟨s0.st, e, H1, Hf1⟩ ∧ Ext c.L s0 ⟨s0.st, e, H1, Hf1⟩ ∧ ItD c.T c.K J ds Hf1 Hf1 ∧ Post c rel ⟨s0.st, e, H1, Hf1⟩ (k ds e) Q) := by
  cases r with
  | ok a e => exact fun J H' Hf' E X q => ⟨a, e, Hf', E, X, q, Post.base (s0 := s0) X rfl m h⟩
  | exc x e => exact h
  | bad => exact h
/-- the state that a comprehension leaves -/
theorem rest_ok {c : Cc} {σ : L2.St} {e1 e2 : DEnv} {H1 Hf1 H2 Hf2 : Hp} {D' : Addr} {vs : List Nat} {acc : List V} {da : List D} (hv : ∀ v ∈ vs, c.L ≤ v) (E1 : ER c.T c.K ⟨σ, e1, H1, Hf1⟩) (hD : H1 D' = none)
    (E2 : ER c.T c.K ⟨wipe σ vs, e2, H2, Hf2⟩) (hw : ∀ v ∈ vs, ∀ cl, e2[v]? = some cl → cl = .no) (X2 : Ext c.L ⟨wipe σ vs, wipeE e1 vs, upd H1 D' (.lst []), Hf1⟩ ⟨wipe σ vs, e2, H2, Hf2⟩ ∨ True)
    (keep : Same Hf1 Hf2) (frn : ∀ a, a ≠ D' → Frn ⟨wipe σ vs, wipeE e1 vs, H1, Hf1⟩ a → Frn ⟨wipe σ vs, e2, H2, Hf2⟩ a ∧ H2 a = H1 a) (fD : Frn ⟨wipe σ vs, e2, H2, Hf2⟩ D') (hA : H2 D' = some (.lst acc)) (dA : DrA c.K Hf2 acc da) :
    ER c.T c.K ⟨σ, restE e1 e2 vs, H2, Hf2⟩ ∧ Ext c.L ⟨σ, e1, H1, Hf1⟩ ⟨σ, restE e1 e2 vs, H2, Hf2⟩ ∧ VR c.K ⟨σ, e1, H1, Hf1⟩ ⟨σ, restE e1 e2 vs, H2, Hf2⟩ (.ref D') (.ow da) := by
  have old : ∀ (j : Nat) (cl : Cell), (restE e1 e2 vs)[j]? = some cl → cl ≠ .no → (j ∈ vs ∧ e1[j]? = some cl) ∨ (j ∉ vs ∧ e2[j]? = some cl ∧ (wipe σ vs)[j]? = σ[j]?) := fun j cl h hn => by
    rcases restE_get h with ⟨h1, h2⟩ | ⟨h1, h2⟩
    · exact .inl ⟨h1, getD_cell hn h2⟩
    · exact .inr ⟨h1, h2, wipe_get h1⟩
  -- what an own slot of the block's names holds
  have held : ∀ (j : Nat) (ds : List D), j ∈ vs → e1[j]? = some (.ow ds) → ∃ a xs, σ[j]? = some (some (.ref a)) ∧ H1 a = some (.lst xs) ∧ DrA c.K Hf1 xs ds ∧ a ≠ D' ∧ Frn ⟨wipe σ vs, e2, H2, Hf2⟩ a ∧ H2 a = some (.lst xs) := fun j ds hj h => by
    obtain ⟨a, xs, g1, g2, g3, g4⟩ := E1.ow j ds h
    have hne : a ≠ D' := fun z => by
      subst z
      rw [show (DSt.mk σ e1 H1 Hf1).hp a = H1 a from rfl, hD] at g2
      cases g2
    have fr : Frn ⟨wipe σ vs, wipeE e1 vs, H1, Hf1⟩ a := by
      refine ⟨.of (u := .lst xs) g2 (fun _ z => by cases z), g3, fun ⟨k, es, q1, q2⟩ => ?_⟩
      obtain ⟨z1, z2⟩ := wipeE_get (by simp) q1
      have q2' : (wipe σ vs)[k]? = some (some (.ref a)) := q2
      rw [wipe_get z2] at q2'
      have e := E1.inj k j es ds a z1 h q2' g1
      subst e
      exact z2 hj
    obtain ⟨f, e⟩ := frn a hne fr
    exact ⟨a, xs, g1, g2, g4, hne, f, e.trans g2⟩
  have own : ∀ a, Own ⟨σ, restE e1 e2 vs, H2, Hf2⟩ a → (Own ⟨wipe σ vs, e2, H2, Hf2⟩ a) ∨ (Own ⟨σ, e1, H1, Hf1⟩ a ∧ Frn ⟨wipe σ vs, e2, H2, Hf2⟩ a ∧ a ≠ D') := fun a ⟨j, ds, h1, h2⟩ => by
    rcases old j _ h1 (by simp) with ⟨g1, g2⟩ | ⟨g1, g2, g3⟩
    · obtain ⟨b, xs, r1, r2, r3, r4, r5, r6⟩ := held j ds g1 g2
      have h2' : σ[j]? = some (some (.ref a)) := h2
      rw [r1] at h2'
      cases h2'
      exact .inr ⟨⟨j, ds, g2, h2⟩, r5, r4⟩
    · exact .inl ⟨j, ds, g2, g3.trans h2⟩
  refine ⟨⟨?_, E2.sub, fun j d h => ?_, fun j ds h => ?_, fun j k ds es a h1 h2 h3 h4 => ?_, E2.tb⟩, ⟨keep, fun a f => ?_, fun _ _ => rfl⟩, ⟨D', acc, rfl, hA, dA, ⟨fD.1, fD.2.1, fun o => ?_⟩, fun f => f.1.1 hD⟩⟩
  · show (restE e1 e2 vs).length = σ.length
    rw [restE_len]
    have := E2.len
    rwa [show (DSt.mk (wipe σ vs) e2 H2 Hf2).st.length = (wipe σ vs).length from rfl, wipe_length] at this
  · rcases old j _ h (by simp) with ⟨g1, g2⟩ | ⟨g1, g2, g3⟩
    · obtain ⟨v, r1, r2⟩ := E1.fz j d g2
      exact ⟨v, r1, r2.same keep⟩
    · obtain ⟨v, r1, r2⟩ := E2.fz j d g2
      exact ⟨v, g3.symm.trans r1, r2⟩
  · rcases old j _ h (by simp) with ⟨g1, g2⟩ | ⟨g1, g2, g3⟩
    · obtain ⟨a, xs, r1, r2, r3, r4, r5, r6⟩ := held j ds g1 g2
      exact ⟨a, xs, r1, r6, r5.2.1, r3.same keep⟩
    · obtain ⟨a, xs, r1, r2⟩ := E2.ow j ds g2
      exact ⟨a, xs, g3.symm.trans r1, r2⟩
  · have h3' : σ[j]? = some (some (.ref a)) := h3
    have h4' : σ[k]? = some (some (.ref a)) := h4
    rcases old j _ h1 (by simp) with ⟨g1, g2⟩ | ⟨g1, g2, g3⟩ <;> rcases old k _ h2 (by simp) with ⟨f1, f2⟩ | ⟨f1, f2, f3⟩
    · exact E1.inj j k ds es a g2 f2 h3' h4'
    · obtain ⟨b, xs, r1, r2, r3, r4, r5, r6⟩ := held j ds g1 g2
      rw [h3'] at r1
      cases r1
      exact absurd ⟨k, es, f2, f3.trans h4'⟩ r5.2.2
    · obtain ⟨b, xs, r1, r2, r3, r4, r5, r6⟩ := held k es f1 f2
      rw [h4'] at r1
      cases r1
      exact absurd ⟨j, ds, g2, g3.trans h3'⟩ r5.2.2
    · exact E2.inj j k ds es a g2 f2 (g3.trans h3') (f3.trans h4')
  · have hne : a ≠ D' := fun z => by subst z; exact f.1.1 hD
    have f0 : Frn ⟨wipe σ vs, wipeE e1 vs, H1, Hf1⟩ a := ⟨f.1, f.2.1, fun o => f.2.2 ((E1.wiped vs).2 a o)⟩
    obtain ⟨f2, e⟩ := frn a hne f0
    refine ⟨⟨f2.1, f2.2.1, fun o => ?_⟩, e⟩
    rcases own a o with z | ⟨z, _, _⟩
    · exact f2.2.2 z
    · exact f.2.2 z
  · rcases own D' o with z | ⟨_, _, z⟩
    · exact fD.2.2 z
    · exact z rfl
/-- a thing that is nobody's is changed -/
theorem ER.upf {K : PySem.W.Frag} {s : DSt} (E : ER T K s) {p : Addr} {o : HO} (f : Frn s p) (hx : ∃ xs, s.hp p = some (.lst xs)) (no : ∀ ps, o ≠ .tbl ps) : ER T K ⟨s.st, s.en, upd s.hp p o, s.fr⟩ ∧ (∀ a, a ≠ p → Frn s a → Frn ⟨s.st, s.en, upd s.hp p o, s.fr⟩ a ∧ (upd s.hp p o) a = s.hp a) ∧ Frn ⟨s.st, s.en, upd s.hp p o, s.fr⟩ p := by
  refine ⟨⟨E.len, fun b u q => ?_, E.fz, fun i ds e => ?_, E.inj, tbok_upd E.tb (.inr hx)⟩, fun a ha fa => ⟨⟨fa.1.eq (upd_ne ha), fa.2.1, fa.2.2⟩, upd_ne ha⟩, ⟨.of (u := o) upd_same no, f.2.1, f.2.2⟩⟩
  · have hb : b ≠ p := fun z => by subst z; rw [f.2.1] at q; cases q
    show upd s.hp p o b = some u
    rw [upd_ne hb]
    exact E.sub b u q
  · obtain ⟨a, xs, h1, h2, h3, h4⟩ := E.ow i ds e
    refine ⟨a, xs, h1, ?_, h3, h4⟩
    have ha : a ≠ p := fun z => by subst z; exact f.2.2 ⟨i, ds, e, h1⟩
    show upd s.hp p o a = _
    rw [upd_ne ha]
    exact h2
theorem wipeE_no {e : DEnv} : ∀ {vs : List Nat} {v : Nat}, v ∈ vs → ∀ cl, (wipeE e vs)[v]? = some cl → cl = .no
  | [], v, h, _, _ => by simp at h
  | w :: vs, v, h, cl, hc => by
    unfold wipeE at hc
    by_cases e1 : w = v
    · subst e1
      have hl : w < (wipeE e vs).length := by
        have := (List.getElem?_eq_some_iff.mp hc).1
        rwa [List.length_set] at this
      rw [List.getElem?_set_self hl] at hc
      exact (Option.some.inj hc).symm
    · rw [List.getElem?_set_ne e1] at hc
      exact wipeE_no (by simpa [Ne.symm e1] using h) cl hc
abbrev Cc.quiet (c : Cc) : Cc := { c with W := fun _ _ _ _ => False }
/-- the turns of a comprehension -/
theorem comp_loop {c : Cc} {t : CT} {cond : DM Bool} {elt : DM D} {σ : L2.St} {Q : VK} {ds : List D} {e1 : DEnv} {H1 Hf1 Hx : Hp} {J : It} {accF : List D} {e2 : DEnv} (hv : ∀ v ∈ t.is, c.L ≤ v) (E1 : ER c.T c.K ⟨σ, e1, H1, Hf1⟩) (IT : ItD c.T c.K J ds Hf1 Hx)
    (hx : ∀ b u, Hx b = some u → Hf1 b = some u ∨ (Frn ⟨wipe σ t.is, wipeE e1 t.is, H1, Hf1⟩ b ∧ H1 b = some u)) (hlen : ds.length ≤ 1000000) (hR : compL t cond elt ds [] (wipeE e1 t.is) = .ok accF e2)
    (q1 : Post c (rV c) ⟨σ, e1, H1, Hf1⟩ (.ok (.ow accF) (restE e1 e2 t.is)) Q) (D' : Addr) (hD : H1 D' = none) :
    ∃ W : Nat → Nat → Hp → Prop, (∃ m, W 0 m (upd H1 D' (.lst []))) ∧ ∀ i m H, W i m H →
      (J.stop i H ∧ Q (.ref D') H) ∨ (J.go i H ∧ ∃ Nx : Hp → Prop, (∀ H', Nx H' → ∃ m', m' < m ∧ W (i + 1) m' H') ∧ ∀ x H', J.yld i H x H' → gCT c.K t x (wipe σ t.is) H' fun σ2 H2 => wipe σ2 t.is = wipe σ t.is ∧ tR c.quiet rB cond σ2 H2 fun b H3 =>
        if b = true then tR c.quiet (rD c.quiet) elt σ2 H3 fun y H4 => ∃ acc, H4 D' = some (.lst acc) ∧ acc.length < sizeLine ∧ Nx (upd H4 D' (.lst (acc ++ [y]))) else Nx H3) := by
  have hxs : ∀ {H' Hf' : Hp} {e : DEnv}, Same Hf1 Hf' → ER c.T c.K ⟨wipe σ t.is, e, H', Hf'⟩ → (∀ a, a ≠ D' → Frn ⟨wipe σ t.is, wipeE e1 t.is, H1, Hf1⟩ a → Frn ⟨wipe σ t.is, e, H', Hf'⟩ a ∧ H' a = H1 a) → Same Hx H' := fun {H' Hf' e} sm E' fr b u hb => by
    rcases hx b u hb with z | ⟨z1, z2⟩
    · exact E'.sub b u (sm b u z)
    · rw [(fr b (fun z => by rw [z, hD] at z2; cases z2) z1).2]
      exact z2
  obtain ⟨Ew, _⟩ := E1.wiped t.is
  obtain ⟨E0, X0, f0⟩ := Ew.laid (L := c.L) (.lst []) hD
  refine ⟨fun i m H' => m = ds.length - i ∧ i ≤ ds.length ∧ ∃ e Hf' acc da, ER c.T c.K ⟨wipe σ t.is, e, H', Hf'⟩ ∧ (∀ v ∈ t.is, ∀ cl, e[v]? = some cl → cl = .no) ∧ Same Hf1 Hf' ∧
    (∀ a, a ≠ D' → Frn ⟨wipe σ t.is, wipeE e1 t.is, H1, Hf1⟩ a → Frn ⟨wipe σ t.is, e, H', Hf'⟩ a ∧ H' a = H1 a) ∧ Frn ⟨wipe σ t.is, e, H', Hf'⟩ D' ∧ H' D' = some (.lst acc) ∧ DrA c.K Hf' acc da ∧ da.length ≤ i ∧ compL t cond elt (ds.drop i) da e = .ok accF e2,
    ⟨ds.length, by omega, by omega, wipeE e1 t.is, Hf1, [], [], E0, fun v hm => wipeE_no hm, Same.refl _, fun a ha f => X0.frn a f, f0, upd_same, .nil, Nat.le_refl _, by simpa using hR⟩, ?_⟩
  rintro i m H' ⟨hm, hi, e, Hf', acc, da, E', hno, sm, fr, fD, hA, dA, hda, hC⟩
  by_cases hlt : i < ds.length
  · refine .inr ⟨IT.go i H' hlt (hxs sm E' fr), ?_⟩
    rw [drop_cons hlt] at hC
    unfold compL at hC
    refine ⟨fun H2 => ∃ e Hf' acc da, ER c.T c.K ⟨wipe σ t.is, e, H2, Hf'⟩ ∧ (∀ v ∈ t.is, ∀ cl, e[v]? = some cl → cl = .no) ∧ Same Hf1 Hf' ∧
      (∀ a, a ≠ D' → Frn ⟨wipe σ t.is, wipeE e1 t.is, H1, Hf1⟩ a → Frn ⟨wipe σ t.is, e, H2, Hf'⟩ a ∧ H2 a = H1 a) ∧ Frn ⟨wipe σ t.is, e, H2, Hf'⟩ D' ∧ H2 D' = some (.lst acc) ∧ DrA c.K Hf' acc da ∧ da.length ≤ i + 1 ∧ compL t cond elt (ds.drop (i + 1)) da e = .ok accF e2, fun H2 h => ⟨ds.length - (i + 1), by omega, rfl, by omega, h⟩, fun x H2 y => ?_⟩
    obtain ⟨Hf2, E2, X2, r2⟩ := IT.yld c.L i ds[i] ⟨wipe σ t.is, e, H', Hf'⟩ x H2 (List.getElem?_eq_getElem hlt) E' sm (hxs sm E' fr) y
    cases hct : ctV t ds[i] e with
    | none => rw [hct] at hC; cases hC
    | some e3 =>
      rw [hct] at hC
      dsimp only at hC
      refine rd_ct E2 r2 hv hct fun σ' E3 X3 hw => ⟨hw.trans (wipe_wipe _ _), e3, Hf2, E3, ?_⟩
      have hw' : wipe σ' t.is = wipe σ t.is := hw.trans (wipe_wipe _ _)
      have X23 := X2.trans X3
      cases hcond : cond e3 with
      | bad => rw [hcond] at hC; cases hC
      | exc x e => rw [hcond] at hC; cases hC
      | ok k e4 =>
        rw [hcond] at hC
        intro b H4 Hf4 E4 X4 rb
        obtain rfl : b = k := rb
        have X34 : Ext c.L ⟨wipe σ t.is, e, H', Hf'⟩ ⟨σ', e4, H4, Hf4⟩ := X23.trans X4
        cases b with
        | false =>
          rw [if_neg Bool.false_ne_true]
          dsimp only at hC
          obtain ⟨E5, o5⟩ := E4.wiped t.is
          have F5 : ∀ a, Frn ⟨σ', e4, H4, Hf4⟩ a → Frn ⟨wipe σ' t.is, wipeE e4 t.is, H4, Hf4⟩ a := fun a f => ⟨f.1, f.2.1, fun o => f.2.2 (o5 a o)⟩
          rw [hw'] at E5 F5
          obtain ⟨fD4, eD4⟩ := X34.frn D' fD
          refine ⟨wipeE e4 t.is, Hf4, acc, da, E5, fun v hm => wipeE_no hm, sm.trans X34.keep, fun a ha f => ?_, F5 _ fD4, eD4.trans hA, dA.same X34.keep, by omega, hC⟩
          obtain ⟨g1, g2⟩ := fr a ha f
          obtain ⟨g3, g4⟩ := X34.frn a g1
          exact ⟨F5 a g3, g4.trans g2⟩
        | true =>
          rw [if_pos rfl]
          dsimp only at hC
          refine ⟨e4, Hf4, E4, ?_⟩
          cases helt : elt e4 with
          | bad => rw [helt] at hC; cases hC
          | exc x e => rw [helt] at hC; cases hC
          | ok yd e5 =>
            rw [helt] at hC
            dsimp only at hC
            intro yv H5 Hf5 E5 X5 ry
            have X35 : Ext c.L ⟨wipe σ t.is, e, H', Hf'⟩ ⟨σ', e5, H5, Hf5⟩ := X34.trans X5
            obtain ⟨fD5, eD5⟩ := X35.frn D' fD
            have hA5 : H5 D' = some (.lst acc) := eD5.trans hA
            have hl5 : acc.length ≤ 1000000 := by rw [DrA.len dA]; omega
            refine ⟨acc, hA5, line_lt hl5, ?_⟩
            obtain ⟨E6, o6⟩ := E5.wiped t.is
            have F6 : ∀ a, Frn ⟨σ', e5, H5, Hf5⟩ a → Frn ⟨wipe σ' t.is, wipeE e5 t.is, H5, Hf5⟩ a := fun a f => ⟨f.1, f.2.1, fun o => f.2.2 (o6 a o)⟩
            rw [hw'] at E6 F6
            obtain ⟨E7, F7, fD7⟩ := E6.upf (o := .lst (acc ++ [yv])) (F6 _ fD5) ⟨_, hA5⟩ (fun _ z => by cases z)
            refine ⟨wipeE e5 t.is, Hf5, acc ++ [yv], da ++ [yd], E7, fun v hm => wipeE_no hm, sm.trans X35.keep, fun a ha f => ?_, fD7, upd_same, DrA.app (dA.same X35.keep) (DrA.one ry), by rw [List.length_append]; simp; omega, hC⟩
            obtain ⟨g1, g2⟩ := fr a ha f
            obtain ⟨g3, g4⟩ := X35.frn a g1
            obtain ⟨g5, g6⟩ := F7 a ha (F6 a g3)
            exact ⟨g5, g6.trans (g4.trans g2)⟩
  · have e0 : i = ds.length := by omega
    subst e0
    rw [List.drop_length] at hC
    unfold compL at hC
    cases hC
    obtain ⟨E8, X8, V8⟩ := rest_ok hv E1 hD E' hno (.inr trivial) sm fr fD hA dA
    exact .inl ⟨IT.stop H' (hxs sm E' fr), q1 _ _ _ E8 X8 V8⟩
theorem rd_comp {c : Cc} {it : DM (List D)} {t : CT} {cond : DM Bool} {elt : DM D} {σ : L2.St} {H : Hp} {Q : VK} (hv : ∀ v ∈ t.is, c.L ≤ v) (q : tR c (rV c) (mComp it t cond elt) σ H Q) :
    tLc (tI c it) (gCT c.K t) (tR c.quiet rB cond) (tR c.quiet (rD c.quiet) elt) t.is σ H Q := by
  obtain ⟨en, Hf, E, q⟩ := q
  refine ⟨en, Hf, E, PostI.mono (Post.it mono_rV q) fun J H1 w => ?_⟩
  obtain ⟨ds, e1, Hf1, E1, X1, IT, q1⟩ := w
  by_cases hlen : ds.length ≤ 1000000
  · rw [if_pos hlen] at q1
    cases hR : compL t cond elt ds [] (wipeE e1 t.is) with
    | bad => rw [hR] at q1; exact q1.elim
    | exc x e => rw [hR] at q1; exact q1.elim
    | ok accF e2 =>
      rw [hR] at q1
      exact fun D' hD => comp_loop hv E1 IT (fun b u h => .inl h) hlen hR q1 D' hD
  · rw [if_neg hlen] at q1
    exact q1.elim

/-! ### a comprehension over an own list, which it leaves alone -/
theorem ER.take {K : PySem.W.Frag} {s : DSt} (E : ER T K s) {i : Nat} {ds : List D} {a : Addr} {xs : List V} (e : s.en[i]? = some .no) (ha : s.st[i]? = some (some (.ref a))) (h1 : s.hp a = some (.lst xs)) (f : Frn s a) (r : DrA K s.fr xs ds) :
    ER T K ⟨s.st, s.en.set i (.ow ds), s.hp, s.fr⟩ ∧ ∀ p, p ≠ a → Frn s p → Frn ⟨s.st, s.en.set i (.ow ds), s.hp, s.fr⟩ p := by
  have hi : i < s.en.length := (List.getElem?_eq_some_iff.mp e).1
  have old : ∀ (j : Nat) (cl : Cell), (s.en.set i (.ow ds))[j]? = some cl → (j = i ∧ cl = .ow ds) ∨ (j ≠ i ∧ s.en[j]? = some cl) := fun j cl h => by
    by_cases hj : j = i
    · subst hj
      rw [List.getElem?_set_self hi] at h
      exact .inl ⟨rfl, (Option.some.inj h).symm⟩
    · rw [List.getElem?_set_ne (Ne.symm hj)] at h
      exact .inr ⟨hj, h⟩
  refine ⟨⟨by rw [List.length_set]; exact E.len, E.sub, fun j d h => ?_, fun j es h => ?_, fun j k es fs p q1 q2 q3 q4 => ?_, E.tb⟩, fun p hp g => ⟨g.1, g.2.1, fun ⟨j, es, z1, z2⟩ => ?_⟩⟩
  · rcases old j _ h with ⟨_, z⟩ | ⟨_, z⟩
    · cases z
    · exact E.fz j d z
  · rcases old j _ h with ⟨z1, z⟩ | ⟨_, z⟩
    · cases z
      exact ⟨a, xs, by rw [z1]; exact ha, h1, f.2.1, r⟩
    · exact E.ow j es z
  · have q3' : s.st[j]? = some (some (.ref p)) := q3
    have q4' : s.st[k]? = some (some (.ref p)) := q4
    rcases old j _ q1 with ⟨z1, _⟩ | ⟨z1, z2⟩ <;> rcases old k _ q2 with ⟨y1, _⟩ | ⟨y1, y2⟩
    · rw [z1, y1]
    · rw [z1, ha] at q3'
      cases q3'
      exact absurd ⟨k, fs, y2, q4'⟩ f.2.2
    · rw [y1, ha] at q4'
      cases q4'
      exact absurd ⟨j, es, z2, q3'⟩ f.2.2
    · exact E.inj j k es fs p z2 y2 q3' q4'
  · have z2' : s.st[j]? = some (some (.ref p)) := z2
    rcases old j _ z1 with ⟨y1, _⟩ | ⟨_, y2⟩
    · rw [y1, ha] at z2'
      cases z2'
      exact hp rfl
    · exact g.2.2 ⟨j, es, y2, z2'⟩
def mCompO (L i : Nat) (t : CT) (cond : DM Bool) (elt : DM D) : DM Val := fun e => match e[i]? with
  | some (.ow ds) => if i ∈ t.is then .bad else if ds.length ≤ 1000000 then match compL t cond elt ds [] (wipeE (e.set i .no) t.is) with
      | .ok acc e2 => match (restE (e.set i .no) e2 t.is)[i]? with
        | some .no => .ok (.ow acc) ((restE (e.set i .no) e2 t.is).set i (.ow ds))
        | _ => .bad
      | _ => .bad
    else .bad
  | _ => mComp (mSeqIt (mFz (mV L i))) t cond elt e
def tIO (c : Cc) (i : Nat) : TI := fun σ H R => (∃ a xs, σ[i]? = some (some (.ref a)) ∧ H a = some (.lst xs) ∧ R (Itl c.K a) H) ∨ tI c (mSeqIt (mFz (mV c.L i))) σ H R
theorem di_own {X : Cx} {c : Cc} {tg : Expr} {x : Str} {p : Pos} {i : Nat} (hK : c.K = X.K) (h : PE X (.Name x p) (tVar i)) : PI X tg (.Name x p) (tIO c i) := by
  have h2 : DI X c tg (.Name x p) (mSeqIt (mFz (mV c.L i))) := di_seq hK (dd_fz (peImp h fun _ _ _ w => rd_v w))
  refine ⟨fun pins s σ H R I q => ?_⟩
  rcases q with ⟨a, xs, q1, q2, q3⟩ | q
  · exact (pi_seq (tg := tg) h).run pins s σ H R I ⟨.ref a, q1, a, rfl, .inl ⟨⟨xs, SqL.of q2⟩, by rw [← hK]; exact q3⟩⟩
  · exact h2.run pins s σ H R I q
theorem rd_compO {c : Cc} {i : Nat} {t : CT} {cond : DM Bool} {elt : DM D} {σ : L2.St} {H : Hp} {Q : VK} (hv : ∀ v ∈ t.is, c.L ≤ v) (q : tR c (rV c) (mCompO c.L i t cond elt) σ H Q) :
    tLc (tIO c i) (gCT c.K t) (tR c.quiet rB cond) (tR c.quiet (rD c.quiet) elt) t.is σ H Q := by
  obtain ⟨en, Hf, E, q⟩ := q
  unfold mCompO at q
  have other : Post c (rV c) ⟨σ, en, H, Hf⟩ (mComp (mSeqIt (mFz (mV c.L i))) t cond elt en) Q → tLc (tIO c i) (gCT c.K t) (tR c.quiet rB cond) (tR c.quiet (rD c.quiet) elt) t.is σ H Q := fun q => .inr (rd_comp hv ⟨en, Hf, E, q⟩)
  cases hc : en[i]? with
  | none => rw [hc] at q; exact other q
  | some cl =>
    cases cl with
    | no => rw [hc] at q; exact other q
    | fz d => rw [hc] at q; exact other q
    | ow ds =>
      rw [hc] at q
      dsimp only at q
      by_cases hit : i ∈ t.is
      · rw [if_pos hit] at q; exact q.elim
      · rw [if_neg hit] at q
        by_cases hlen : ds.length ≤ 1000000
        · rw [if_pos hlen] at q
          cases hR : compL t cond elt ds [] (wipeE (en.set i .no) t.is) with
          | bad => rw [hR] at q; exact q.elim
          | exc x e => rw [hR] at q; exact q.elim
          | ok accF e2 =>
            rw [hR] at q
            dsimp only at q
            cases hn : (restE (en.set i .no) e2 t.is)[i]? with
            | none => rw [hn] at q; exact q.elim
            | some cl =>
              cases cl with
              | fz d => rw [hn] at q; exact q.elim
              | ow d => rw [hn] at q; exact q.elim
              | no =>
                rw [hn] at q
                dsimp only at q
                obtain ⟨a, xs, g1, g2, g3, g4⟩ := E.ow i ds hc
                have g1' : σ[i]? = some (some (.ref a)) := g1
                have g2' : H a = some (.lst xs) := g2
                obtain ⟨E1, X1, F1⟩ := E.give (L := c.L) hc g1 g2 g3
                refine .inl ⟨a, xs, g1', g2', fun D' hD => ?_⟩
                have fw : Frn ⟨wipe σ t.is, wipeE (en.set i .no) t.is, H, Hf⟩ a := ⟨F1.1, F1.2.1, fun o => F1.2.2 ((E1.wiped t.is).2 a o)⟩
                refine comp_loop (Hx := upd Hf a (.lst xs)) hv E1 (itd_list upd_same g4) (fun b u hb => ?_) hlen hR ?_ D' hD
                · by_cases hba : b = a
                  · subst hba
                    rw [upd_same] at hb
                    cases hb
                    exact .inr ⟨fw, g2'⟩
                  · rw [upd_ne hba] at hb
                    exact .inl hb
                · intro v H' Hf' E' X' r
                  obtain ⟨fa, ea⟩ := X'.frn a F1
                  have fa' : H' a = some (.lst xs) := ea.trans g2'
                  obtain ⟨E3, F3⟩ := E'.take (i := i) (ds := ds) hn g1' fa' fa (g4.same X'.keep)
                  have na : ∀ p, Frn ⟨σ, en, H, Hf⟩ p → p ≠ a := fun p f z => f.2.2 ⟨i, ds, hc, by rw [z]; exact g1'⟩
                  refine q v H' Hf' E3 ⟨X'.keep, fun p f => ?_, fun _ _ => rfl⟩ ?_
                  · obtain ⟨h1, h2⟩ := X'.frn p (X1.frn p f).1
                    exact ⟨F3 p (na p f) h1, h2⟩
                  · obtain ⟨p, ys, h1, h2, h3, h4, h5⟩ := r
                    have hpa : p ≠ a := fun z => h5 (by rw [z]; exact F1)
                    exact ⟨p, ys, h1, h2, h3, F3 p hpa h4, fun z => h5 (X1.frn p z).1⟩
        · rw [if_neg hlen] at q; exact q.elim
end DL

/-! DL9b: calls with keywords alone; two and three names stored at once. -/
namespace DL
open PySem PySem.Spec PyProof.Rows L2
variable {T : Tb}

/-! ### keywords -/
/-- the keywords' values in the order of the parameters -/
def reord {α : Type} (z : α) (ks ps : List Str) (ws : List α) : List α := ps.map fun p => ((ks.zip ws).lookup p).getD z
/-- how a call with these keywords, and nothing else, binds -/
def KB (K : PySem.W.Frag) (fd : FuncData) (ps ks : List Str) : Prop := ∀ (s : Shared) (ws : List Value), K.In s.heap → ws.length = ks.length → BindsTo s fd ⟨[], ks.zip ws⟩ (ps.zip (reord .none ks ps ws))
theorem look_vals {p : Str} : ∀ {ks : List Str} {vs : List V} {ws : List Value}, Vals vs ws → RelV (((ks.zip vs).lookup p).getD .non) (((ks.zip ws).lookup p).getD .none)
  | [], _, _, _ => rfl
  | k :: ks, _, _, .nil => rfl
  | k :: ks, _, _, .cons h r => by
    simp only [List.zip_cons_cons, List.lookup_cons]
    cases p == k with
    | true => exact h
    | false => exact look_vals r
theorem reord_vals {ks : List Str} {vs : List V} {ws : List Value} (h : Vals vs ws) : ∀ ps : List Str, Vals (reord .non ks ps vs) (reord .none ks ps ws)
  | [] => .nil
  | p :: ps => .cons (look_vals h) (reord_vals h ps)
theorem look_dr {K : PySem.W.Frag} {H : Hp} {p : Str} : ∀ {ks : List Str} {vs : List V} {ds : List D}, DrA K H vs ds → Dr K H (((ks.zip vs).lookup p).getD .non) (((ks.zip ds).lookup p).getD .none)
  | [], _, _, _ => .non
  | k :: ks, _, _, .nil => .non
  | k :: ks, _, _, .cons h r => by
    simp only [List.zip_cons_cons, List.lookup_cons]
    cases p == k with
    | true => exact h
    | false => exact look_dr r
theorem reord_args {K : PySem.W.Frag} {s0 s1 : DSt} {ks : List Str} {vs : List V} {ds : List D} (h : DrA K s1.fr vs ds) : ∀ ps : List Str, ArgsR K s0 s1 (reord .non ks ps vs) ((reord .none ks ps ds).map Pas.fz)
  | [] => .nil
  | p :: ps => .fz (look_dr h) (reord_args h ps)
section
variable {X : Cx} {k : Nat} {f : Addr} {fd : FuncData} {ps ks : List Str} {sp : Sp} {x : Str} {p pos : Pos} {kws : List Keyword} {t : TA} {W : WX}
theorem peCallKw (F : FnG X.prog X.w X.K X.mg X.base k f fd ps sp) (hgu : X.A.guards = some []) (hr : Room k X.A) (hg : Gl X x) (hm : X.mg x = some (.ref f)) (hk : PySem.W.keepIn X.K (.ref f) = true) (hb : KB X.K fd ps ks) (tw : Takes X W)
    (ha : PK X kws t) (hall : (backToKw pos (keywordEach kws X.env)).all (·.1.isSome) = true) (hks : (backToKw pos (keywordEach kws X.env)).filterMap (·.1) = ks)
    (hpl : ((backTo pos (starEach [] X.env)).any (·.1) || (backToKw pos (keywordEach kws X.env)).any (·.1.isNone)) = false) (hdb : (x == ("__debug__" : Str)) = false) :
    PE X (.Call (.Name x p) [] kws pos) (fun σ H Q => t σ H fun vs H1 => vs.length = ks.length ∧ sp (reord .non ks ps vs) H1 Q (WE W σ)) := by
  refine ⟨fun pins s σ H Q I h => wpAny_Call_Name_kw (ld_glob I hg hm ?_ hdb)⟩
  refine PySem.W.callWith_KW0 (h₀ := X.base) I.ok.mod.kin hk hall (thn (ha.run pos pins s σ H _ I h) fun us s1 ⟨vs, H1, I1, r, q⟩ => ⟨I1.kIn, ?_⟩) hpl
  rw [hks]
  obtain ⟨hl, q⟩ := q
  exact runG (us := []) F hgu hr tw (hb s1 us I1.kIn (by rw [← r.length]; exact hl)) I1 (reord_vals r ps) q
end
def mCallK (sem : DM Val) (ks ps : List Str) (ms : List (DM D)) : DM Val := fun e => (mAll ms e).andThen fun ds e1 => if ds.length = ks.length then callF sem ((reord .none ks ps ds).map Pas.fz) e1 else .bad
theorem rd_callK {c : Cc} {sem : DM Val} {ks ps : List Str} {ms : List (DM D)} {σ : L2.St} {H : Hp} {Q : VK} (q : tR c (rV c) (mCallK sem ks ps ms) σ H Q) :
    tR c (rA c) (mAll ms) σ H fun vs H1 => vs.length = ks.length ∧ spG c.T c.K c.mg sem (reord .non ks ps vs) H1 Q (WE c.W σ) := by
  obtain ⟨e, Hf, E, q⟩ := q
  refine ⟨e, Hf, E, ?_⟩
  refine Post.mono (Post.bind (rel := rA c) (show Post c (rV c) _ ((mAll ms e).andThen fun ds e1 => if ds.length = ks.length then callF sem ((reord .none ks ps ds).map Pas.fz) e1 else .bad) Q from q)) fun vs H1 w => ?_
  obtain ⟨ds, e1, Hf1, E1, X1, r1, q1⟩ := w
  by_cases hl : ds.length = ks.length
  · rw [if_pos hl] at q1
    exact ⟨by rw [DrA.len r1]; exact hl, call_post (s0 := ⟨σ, e, H, Hf⟩) (s1 := ⟨σ, e1, H1, Hf1⟩) E1 X1 rfl (reord_args r1 ps) q1⟩
  · rw [if_neg hl] at q1; exact q1.elim
def DKs (X : Cx) (c : Cc) (kws : List Keyword) (ms : List (DM D)) : Prop := PK X kws (tR c (rA c) (mAll ms))
theorem pkImp {X : Cx} {e : List Keyword} {t t' : TA} (h : PK X e t) (i : ∀ σ H Q, t' σ H Q → t σ H Q) : PK X e t' := ⟨fun p pins s σ H Q I q => h.run p pins s σ H Q I (i σ H Q q)⟩
theorem dk_nil {X : Cx} {c : Cc} : DKs X c [] [] := pkImp pk_nil fun σ H Q q => by
  obtain ⟨e, Hf, E, q⟩ := q
  exact q [] H Hf E Ext.refl .nil
theorem dk_cons {X : Cx} {c : Cc} {nm : Option Str} {e : Expr} {kp : Pos} {es : List Keyword} {m : DM D} {ms : List (DM D)} (h : DD X c e m) (hr : DKs X c es ms) : DKs X c (⟨nm, e, kp⟩ :: es) (m :: ms) :=
  pkImp (pk_cons h hr) fun _ _ _ q => rd_cons q

/-! ### several values at once -/
/-- values as they lie, one behind another; two own ones are not the same -/
inductive VsR (K : PySem.W.Frag) (s0 s : DSt) : List V → List Val → Prop
  | nil : VsR K s0 s [] []
  | fz {v : V} {d : D} {vs : List V} {as : List Val} : Dr K s.fr v d → VsR K s0 s vs as → VsR K s0 s (v :: vs) (.fz d :: as)
  | ow {v : V} {ds : List D} {vs : List V} {as : List Val} : VR K s0 s v (.ow ds) → (∀ es, (v, Val.ow es) ∉ vs.zip as) → VsR K s0 s vs as → VsR K s0 s (v :: vs) (.ow ds :: as)
def rVs (c : Cc) : DSt → DSt → List V → List Val → Prop := fun s s' vs as => VsR c.K s s' vs as
theorem VsR.low {K : PySem.W.Frag} {L : Nat} {s s1 s2 : DSt} (X : Ext L s s1) : ∀ {vs : List V} {as : List Val}, VsR K s1 s2 vs as → VsR K s s2 vs as
  | _, _, .nil => .nil
  | _, _, .fz h r => .fz h (VsR.low X r)
  | _, _, .ow h n r => .ow (by
    obtain ⟨p, xs, h1, h2, h3, h4, h5⟩ := h
    exact ⟨p, xs, h1, h2, h3, h4, fun z => h5 (X.frn p z).1⟩) n (VsR.low X r)
theorem mono_rVs {c : Cc} {L : Nat} : Mono L (rVs c) := fun s s1 s2 b a X h => VsR.low (L := L) X h
/-- what is own among them is new -/
theorem VsR.new {K : PySem.W.Frag} {s0 s : DSt} : ∀ {vs : List V} {as : List Val} {v : V} {es : List D}, VsR K s0 s vs as → (v, Val.ow es) ∈ vs.zip as → ∃ p, v = .ref p ∧ Frn s p ∧ ¬ Frn s0 p
  | _, _, _, _, .nil, h => by simp at h
  | _, _, _, _, .fz _ r, h => by
    rcases List.mem_cons.mp h with e | h
    · cases e
    · exact r.new h
  | _, _, _, _, .ow g _ r, h => by
    rcases List.mem_cons.mp h with e | h
    · cases e
      obtain ⟨p, xs, h1, h2, h3, h4, h5⟩ := g
      exact ⟨p, h1, h4, h5⟩
    · exact r.new h
def mVals : List (DM Val) → DM (List Val)
  | [] => fun e => .ok [] e
  | m :: r => fun e => (m e).andThen fun d e1 => (mVals r e1).andThen fun ds e2 => .ok (d :: ds) e2
def DVs (X : Cx) (c : Cc) (es : List Expr) (ms : List (DM Val)) : Prop := PA X es (tR c (rVs c) (mVals ms))
theorem dv_nil {X : Cx} {c : Cc} : DVs X c [] [] := paImp pa_nil fun σ H Q q => by
  obtain ⟨e, Hf, E, q⟩ := q
  exact q [] H Hf E Ext.refl .nil
theorem dv_cons {X : Cx} {c : Cc} {e : Expr} {es : List Expr} {m : DM Val} {ms : List (DM Val)} (h : DE X c e m) (hr : DVs X c es ms) (hs : starEach (e :: es) X.env = (false, eval e X.env) :: starEach es X.env) : DVs X c (e :: es) (m :: ms) := by
  refine paImp (pa_cons h hr hs) fun σ H Q q => ?_
  obtain ⟨en, Hf, E, q⟩ := q
  refine ⟨en, Hf, E, Post.mono (Post.bind (rel := rV c) (show Post c (rVs c) _ ((m en).andThen fun d e1 => (mVals ms e1).andThen fun ds e2 => .ok (d :: ds) e2) Q from q)) fun v H1 w => ?_⟩
  obtain ⟨a, e1, Hf1, E1, X1, r1, q1⟩ := w
  refine ⟨e1, Hf1, E1, ?_⟩
  cases hm : mVals ms e1 with
  | bad => rw [hm] at q1; exact q1.elim
  | exc x e2 =>
    rw [hm] at q1
    intro C dx H' Hf' E' X' r'
    exact q1 C dx H' Hf' E' (X1.trans X') r'
  | ok as e2 =>
    rw [hm] at q1
    intro vs H2 Hf2 E2 X2 r2
    refine q1 _ H2 Hf2 E2 (X1.trans X2) ?_
    cases a with
    | fz d => exact .fz (Dr.same X2.keep r1) (VsR.low X1 r2)
    | ow ds =>
      obtain ⟨p, xs, h1, h2, h3, h4, h5⟩ := r1
      obtain ⟨f1, e1'⟩ := X2.frn p h4
      refine .ow ⟨p, xs, h1, e1'.trans h2, h3.same X2.keep, f1, h5⟩ (fun es hm => ?_) (VsR.low X1 r2)
      obtain ⟨p', g1, g2, g3⟩ := VsR.new r2 hm
      rw [h1] at g1
      cases g1
      exact g3 h4
/-- storing one leaves what else is nobody's -/
theorem put_frn {s : DSt} {v : V} {val : Val} {i : Nat} {p : Addr} (f : Frn s p) (n : ∀ ds, val = .ow ds → v ≠ .ref p) : Frn ⟨s.st.set i (some v), s.en.set i val.cell, s.hp, s.fr⟩ p := by
  refine ⟨f.1, f.2.1, fun ⟨j, ds, h1, h2⟩ => ?_⟩
  by_cases hj : i = j
  · subst hj
    have hi : i < s.en.length := by have := (List.getElem?_eq_some_iff.mp h1).1; simpa using this
    have hi2 : i < s.st.length := by have := (List.getElem?_eq_some_iff.mp h2).1; simpa using this
    have h1' : (s.en.set i val.cell)[i]? = some (.ow ds) := h1
    have h2' : (s.st.set i (some v))[i]? = some (some (.ref p)) := h2
    rw [List.getElem?_set_self hi] at h1'
    rw [List.getElem?_set_self hi2] at h2'
    cases h2'
    cases val with
    | fz d => cases h1'
    | ow es => exact n es rfl rfl
  · have h1' : (s.en.set i val.cell)[j]? = some (.ow ds) := h1
    have h2' : (s.st.set i (some v))[j]? = some (some (.ref p)) := h2
    rw [List.getElem?_set_ne hj] at h1' h2'
    exact f.2.2 ⟨j, ds, h1', h2'⟩
theorem VsR.put {K : PySem.W.Frag} {s0 s : DSt} {i : Nat} {v : V} {val : Val} : ∀ {vs : List V} {as : List Val}, VsR K s0 s vs as → (∀ ds es, val = .ow ds → (v, Val.ow es) ∉ vs.zip as) → VsR K s0 ⟨s.st.set i (some v), s.en.set i val.cell, s.hp, s.fr⟩ vs as
  | _, _, .nil, _ => .nil
  | _, _, .fz h r, n => .fz h (VsR.put r fun ds es e m => n ds es e (List.mem_cons_of_mem _ m))
  | _, _, .ow h m r, n => .ow (by
    obtain ⟨p, xs, h1, h2, h3, h4, h5⟩ := h
    exact ⟨p, xs, h1, h2, h3, put_frn h4 fun ds e z => n ds _ e (by rw [z, ← h1]; exact List.mem_cons_self ..), h5⟩) m (VsR.put r fun ds es e m => n ds es e (List.mem_cons_of_mem _ m))
/-- all stored, from the left -/
def puts (L : Nat) : List Nat → List Val → DM Unit
  | [], [] => fun e => .ok () e
  | i :: is, a :: as => fun e => if i < L then .bad else puts L is as (e.set i a.cell)
  | _, _ => fun _ => .bad
def setAll : List Nat → List V → L2.St → L2.St
  | i :: is, v :: vs, σ => setAll is vs (σ.set i (some v))
  | _, _, σ => σ
theorem puts_ok {c : Cc} {s0 : DSt} : ∀ {is : List Nat} {vs : List V} {as : List Val} {s : DSt} {e' : DEnv}, ER c.T c.K s → Ext c.L s0 s → VsR c.K s0 s vs as → puts c.L is as s.en = .ok () e' →
    ER c.T c.K ⟨setAll is vs s.st, e', s.hp, s.fr⟩ ∧ Ext c.L s0 ⟨setAll is vs s.st, e', s.hp, s.fr⟩
  | [], _, _, s, e', E, X, .nil, h => by
    cases h
    exact ⟨E, X⟩
  | i :: is, v :: vs, a :: as, s, e', E, X, r, h => by
    unfold puts at h
    by_cases hi : i < c.L
    · rw [if_pos hi] at h; cases h
    · rw [if_neg hi] at h
      have hv : VR c.K s0 s v a := by
        cases r with
        | fz h1 _ => exact h1
        | ow h1 _ _ => exact h1
      have hr : VsR c.K s0 s vs as := by
        cases r with
        | fz _ h1 => exact h1
        | ow _ _ h1 => exact h1
      have hn : ∀ ds es, a = .ow ds → (v, Val.ow es) ∉ vs.zip as := fun ds es e => by
        cases r with
        | fz _ _ => cases e
        | ow _ h1 _ => exact h1 es
      obtain ⟨E1, X1⟩ := E.put X hv (show c.L ≤ i by omega)
      exact puts_ok (s := ⟨s.st.set i (some v), s.en.set i a.cell, s.hp, s.fr⟩) E1 X1 (hr.put hn) h
  | [], _, _ :: _, _, _, _, _, _, h => by cases h
  | _ :: _, _, [], _, _, _, _, _, h => by cases h
theorem puts_exc {L : Nat} : ∀ {is : List Nat} {as : List Val} {e : DEnv} {x : Exc} {e' : DEnv}, puts L is as e ≠ .exc x e'
  | [], [], _, _, _, h => by cases h
  | i :: is, a :: as, e, x, e', h => by
    unfold puts at h
    by_cases hi : i < L
    · rw [if_pos hi] at h; cases h
    · rw [if_neg hi] at h; exact puts_exc h
  | [], _ :: _, _, _, _, h => by cases h
  | _ :: _, [], _, _, _, h => by cases h
def sPar (L : Nat) (is : List Nat) (ms : List (DM Val)) : SM := fun e => (mVals ms e).stm fun as e1 => (puts L is as e1).stm fun _ e2 => .nx e2
theorem VsR.len {K : PySem.W.Frag} {s0 s : DSt} : ∀ {vs : List V} {as : List Val}, VsR K s0 s vs as → vs.length = as.length
  | _, _, .nil => rfl
  | _, _, .fz _ r => congrArg (· + 1) r.len
  | _, _, .ow _ _ r => congrArg (· + 1) r.len
theorem puts_len {L : Nat} : ∀ {is : List Nat} {as : List Val} {e e' : DEnv}, puts L is as e = .ok () e' → as.length = is.length
  | [], [], _, _, _ => rfl
  | i :: is, a :: as, e, e', h => by
    unfold puts at h
    by_cases hi : i < L
    · rw [if_pos hi] at h; cases h
    · rw [if_neg hi] at h; exact congrArg (· + 1) (puts_len h)
  | [], _ :: _, _, _, h => by cases h
  | _ :: _, [], _, _, h => by cases h
theorem rd_par {c : Cc} {is : List Nat} {ms : List (DM Val)} {D : Ends} {σ : L2.St} {H : Hp} (q : tS c (sPar c.L is ms) D σ H) : tR c (rVs c) (mVals ms) σ H fun vs H1 => vs.length = is.length ∧ D.nx (setAll is vs σ) H1 := by
  obtain ⟨e, Hf, E, q⟩ := q
  refine ⟨e, Hf, E, Post.mono (PostS.val (rel := rVs c) q) fun vs H1 w => ?_⟩
  obtain ⟨as, e1, Hf1, E1, X1, r1, q1⟩ := w
  cases hp : puts c.L is as e1 with
  | bad => rw [hp] at q1; exact q1.elim
  | exc x e2 => exact (puts_exc hp).elim
  | ok u e2 =>
    rw [hp] at q1
    obtain ⟨E2, X2⟩ := puts_ok (s := ⟨σ, e1, H1, Hf1⟩) E1 X1 r1 hp
    exact ⟨by rw [r1.len, puts_len hp], q1 _ _ _ E2 X2⟩
theorem ds_par2 {X : Cx} {c : Cc} {i j : Nat} {x y : Str} {a b : Expr} {ms : List (DM Val)} {px py pt pos : Pos} {kt k2 : Nat} {pt2 : Pos} (hc : X.calm = true) (hN : X.N.Nodup) (hi : X.N[i]? = some x) (hj : X.N[j]? = some y) (hij : i ≠ j)
    (hx : X.env.scope.names.lookup x = some .local) (hy : X.env.scope.names.lookup y = some .local) (ha : DVs X c [a, b] ms)
    (hw : swappedStores [.Tuple [.Name x px, .Name y py] kt pt] (.Tuple [a, b] k2 pt2) X.env = pure (some [x, y])) :
    DS X c (.Assign [.Tuple [.Name x px, .Name y py] kt pt] (.Tuple [a, b] k2 pt2) pos) (sPar c.L [i, j] ms) :=
  psImp (ps_par hc hN hi hj hij hx hy ha hw) fun D σ H q => by
    obtain ⟨e, Hf, E, q⟩ := rd_par q
    refine ⟨e, Hf, E, q.mono fun vs H1 w => ?_⟩
    obtain ⟨hl, w⟩ := w
    match vs, hl with
    | [v, u], _ => exact ⟨v, u, rfl, w⟩
theorem ds_par3 {X : Cx} {c : Cc} {i j l : Nat} {x y z : Str} {a b d : Expr} {ms : List (DM Val)} {px py pz pt pos : Pos} {kt k2 : Nat} {pt2 : Pos} (hc : X.calm = true) (hN : X.N.Nodup) (hi : X.N[i]? = some x) (hj : X.N[j]? = some y) (hl : X.N[l]? = some z) (hij : i ≠ j) (hil : i ≠ l) (hjl : j ≠ l)
    (hx : X.env.scope.names.lookup x = some .local) (hy : X.env.scope.names.lookup y = some .local) (hz : X.env.scope.names.lookup z = some .local) (ha : DVs X c [a, b, d] ms)
    (hw : swappedStores [.Tuple [.Name x px, .Name y py, .Name z pz] kt pt] (.Tuple [a, b, d] k2 pt2) X.env = pure (some [x, y, z])) :
    DS X c (.Assign [.Tuple [.Name x px, .Name y py, .Name z pz] kt pt] (.Tuple [a, b, d] k2 pt2) pos) (sPar c.L [i, j, l] ms) :=
  psImp (ps_par3 hc hN hi hj hl hij hil hjl hx hy hz ha hw) fun D σ H q => by
    obtain ⟨e, Hf, E, q⟩ := rd_par q
    refine ⟨e, Hf, E, q.mono fun vs H1 w => ?_⟩
    obtain ⟨hl, w⟩ := w
    match vs, hl with
    | [v, u, t], _ => exact ⟨v, u, t, rfl, w⟩
/-- are the names stored at once -/
def swC (sc : Scope) (xs : List (Str × Pos)) (vs : List Expr) : Bool :=
  (xs.length == 2 || xs.length == 3) && vs.length == xs.length && decide (sc.kind = .function) && !(vs.any fun | .Starred .. => true | _ => false) && xs.all (fun y => sc.names.lookup y.1 == some .local && y.2.line == ((xs.head?.map (·.2.line)).getD 0)) &&
    (xs.map (·.1)).eraseDups.length == xs.length && !(vs.all (foldedForSure 8)) && !(vs.all (constantsAlone 8))
theorem filterMap_all {α β : Type} {f : α → Option β} {g : α → β} : ∀ {l : List α}, (∀ x ∈ l, f x = some (g x)) → l.filterMap f = l.map g
  | [], _ => rfl
  | x :: r, h => by
    rw [List.filterMap_cons, h x (List.mem_cons_self ..), filterMap_all fun y hy => h y (List.mem_cons_of_mem _ hy)]
    rfl
theorem sw_by {X : Cx} {sc : Scope} (hsc : X.env.scope = sc) {xs : List (Str × Pos)} {vs : List Expr} {kt k2 : Nat} {pt pt2 : Pos} (h : swC sc xs vs = true) :
    swappedStores [.Tuple (xs.map fun y => .Name y.1 y.2) kt pt] (.Tuple vs k2 pt2) X.env = pure (some (xs.map (·.1))) := by
  unfold swC at h
  simp only [Bool.and_eq_true, Bool.not_eq_true'] at h
  obtain ⟨⟨⟨⟨⟨⟨⟨h1, h2⟩, h3⟩, h4⟩, h5⟩, h6⟩, h7⟩, h8⟩ := h
  have hb : X.env.blockKind = .function := by
    unfold PySem.Env.blockKind
    rw [hsc, of_decide_eq_true h3]
    rfl
  have hln : (((xs.map fun y => Expr.Name y.1 y.2).head?.map (·.pos.line)).getD 0) = ((xs.head?.map (·.2.line)).getD 0) := by
    cases xs <;> rfl
  have hnm : ((xs.map fun y => Expr.Name y.1 y.2).filterMap fun
    | .Name id pos => if X.env.kindOf id == some .local && pos.line == (((xs.map fun y => Expr.Name y.1 y.2).head?.map (·.pos.line)).getD 0) then some id else none
    | _ => none) = xs.map (·.1) := by
    rw [hln, List.filterMap_map]
    refine filterMap_all fun y hy => ?_
    have := List.all_eq_true.mp h5 y hy
    show (if X.env.scope.names.lookup y.1 == some .local && _ then _ else _) = _
    rw [hsc, this]
    rfl
  have hl : (xs.map fun y => Expr.Name y.1 y.2).length = xs.length := List.length_map ..
  unfold swappedStores
  show ite _ _ _ = _
  refine Eq.trans (if_neg ?_) ?_
  · rw [hl, hb]
    simp only [h1, eq_of_beq h2]
    simp
  show ite _ _ _ = _
  refine Eq.trans (if_neg ?_) ?_
  · intro z
    have z' := h4.symm.trans z
    cases z'
  show ite _ _ _ = _
  refine Eq.trans (if_neg ?_) ?_
  · intro z
    have z' : ((xs.map (·.1)).length != (xs.map fun y => Expr.Name y.1 y.2).length || (xs.map (·.1)).eraseDups.length != (xs.map (·.1)).length) = true := by
      rw [← hnm]
      exact z
    rw [hl, List.length_map, eq_of_beq h6] at z'
    simp at z'
  show ite _ _ _ = _
  refine Eq.trans (if_neg (by rw [h7]; simp)) ?_
  show ite _ _ _ = _
  refine Eq.trans (if_neg (by rw [h8]; simp)) ?_
  show pure (some _) = pure (some _)
  rw [← hnm]
  rfl
end DL

/-! DS1: set tables of up to 512 places: every place is met, a free one is found. -/
namespace DL
open PySem PySem.Spec PyProof.Rows L2

/-- each place is come to from each other one -/
structure Full (m : Nat) : Prop where
  odd : m % 2 = 1
  top : m ≤ 511
  all : ∀ i j, i ≤ m → j ≤ m → ∃ k, k ≤ m ∧ lcgI m i k = j
theorem full_of {m : Nat} (h : MaskOk m) : Full m := by
  refine ⟨mask_odd h, ?_, fun i j hi hj => lcgI_all h hi hj⟩
  rcases h with e | e | e <;> omega
def seqL (m : Nat) : Nat → Nat → List Nat
  | 0, _ => []
  | n + 1, x => x :: seqL m n ((x * 5 + 1) % (m + 1))
theorem seq_mem {m j : Nat} : ∀ {n a : Nat}, j ∈ seqL m n (lcgN m a) → ∃ b, b < n ∧ lcgN m (a + b) = j
  | 0, a, h => by simp [seqL] at h
  | n + 1, a, h => by
    unfold seqL at h
    rcases List.mem_cons.mp h with e | h
    · exact ⟨0, Nat.succ_pos _, e.symm⟩
    · obtain ⟨b, h1, h2⟩ := seq_mem (a := a + 1) h
      exact ⟨b + 1, by omega, by rw [show a + (b + 1) = a + 1 + b by omega]; exact h2⟩
theorem big_all : ((List.range 512).all fun j => (seqL 511 512 0).contains j) = true := by decide +kernel
theorem big_turn : lcgN 511 512 = 0 := by decide +kernel
theorem big_mod : ∀ k, lcgN 511 (512 + k) = lcgN 511 k
  | 0 => big_turn
  | k + 1 => by
    show (lcgN 511 (512 + k) * 5 + 1) % 512 = (lcgN 511 k * 5 + 1) % 512
    rw [big_mod k]
theorem big_at {j : Nat} (h : j ≤ 511) : ∃ b, b < 512 ∧ lcgN 511 b = j := by
  have z := List.all_eq_true.mp big_all j (List.mem_range.mpr (by omega))
  obtain ⟨b, h1, h2⟩ := seq_mem (m := 511) (a := 0) (List.contains_iff_mem.mp z)
  exact ⟨b, h1, by rw [← h2, Nat.zero_add]⟩
theorem full_511 : Full 511 := by
  refine ⟨rfl, Nat.le_refl _, fun i j hi hj => ?_⟩
  obtain ⟨a, ha, e1⟩ := big_at hi
  obtain ⟨b, hb, e2⟩ := big_at hj
  rw [← e1]
  by_cases c : a ≤ b
  · refine ⟨b - a, by omega, ?_⟩
    rw [lcgN_add, show a + (b - a) = b by omega]
    exact e2
  · refine ⟨b + 512 - a, by omega, ?_⟩
    rw [lcgN_add, show a + (b + 512 - a) = 512 + b by omega, big_mod]
    exact e2
section
variable {m : Nat}
theorem Full.run (F : Full m) (h : Int) {j : Nat} (hj : j ≤ m) : ∃ n, n ≤ m + 12 ∧ runI m (SetTable.bits h) n = j := by
  obtain ⟨k, k1, k2⟩ := F.all _ j (runI_le m (SetTable.bits h) 12) hj
  refine ⟨12 + k, by omega, ?_⟩
  rw [runI_tail (bits_lt h)]
  exact k2
theorem Full.meets (F : Full m) (h : Int) {j : Nat} (hj : j ≤ m) : ∃ k, k < 10 * SetTable.turns m ∧ way m h k = j := by
  obtain ⟨n, n1, n2⟩ := F.run h hj
  obtain ⟨k, k1, k2⟩ := run_nth m (SetTable.bits h) n
  refine ⟨k, ?_, ?_⟩
  · show k < 10 * (m + 15)
    omega
  · show (nth m _ k).j = j
    rw [k2, ← n2]
    rfl
theorem way_in (h : Int) (k : Nat) : way m h k ≤ m := by
  have r := runEnd_bd (show SetTable.bits h % (m + 1) ≤ m from Nat.le_of_lt_succ (Nat.mod_lt _ (Nat.succ_pos _)))
  have q := nth_in (m := m) k (runAt m (SetTable.bits h % (m + 1)) (SetTable.bits h)) (by
    show SetTable.bits h % (m + 1) + (SetTable.runEnd m (SetTable.bits h % (m + 1)) - SetTable.bits h % (m + 1)) ≤ m
    omega)
  exact Nat.le_trans (Nat.le_add_right _ _) q
/-- the first step at which something is so -/
theorem first_at {p : Nat → Prop} {k : Nat} (h : p k) : ∃ K, K ≤ k ∧ p K ∧ ∀ c, c < K → ¬ p c := st_least k h

/-! ### a table in order -/
structure Tab (t : SetTable) (hs : List Int) : Prop where
  up : Ris t.place.toList
  nod : t.dummies = #[]
  size : t.place.size = hs.length
  full : Full t.mask
  within : ∀ x ∈ t.place.toList, x ≤ t.mask
  found : ∀ (i : Nat) (h : Int) (j : Nat), hs[i]? = some h → t.place.toList[i]? = some j → ∃ k, way t.mask h k = j ∧ ∀ c, c < k → way t.mask h c ∈ t.place.toList
variable {t : SetTable} {hs : List Int} {h : Int}
theorem Tab.len (B : Tab t hs) : t.place.toList.length = hs.length := B.size
theorem Tab.hole (B : Tab t hs) (hl : hs.length ≤ t.mask) (h : Int) : ∃ K, K < 10 * SetTable.turns t.mask ∧ way t.mask h K ∉ t.place.toList ∧ ∀ c, c < K → way t.mask h c ∈ t.place.toList := by
  obtain ⟨j, j1, j2⟩ := st_missing t.place.toList (t.mask + 1) (by rw [B.len]; omega)
  obtain ⟨k, k1, k2⟩ := B.full.meets h (Nat.le_of_lt_succ j1)
  obtain ⟨K, q1, q2, q3⟩ := first_at (p := fun c => way t.mask h c ∉ t.place.toList) (k := k) (by rw [k2]; exact j2)
  exact ⟨K, by omega, q2, fun c hc => Classical.byContradiction (q3 c hc)⟩
theorem Tab.ahead (B : Tab t hs) {K i j : Nat} (hK : way t.mask h K ∉ t.place.toList) (h1 : hs[i]? = some h) (h2 : t.place.toList[i]? = some j) : ∃ c, c < K ∧ way t.mask h c = j := by
  obtain ⟨k, e, q⟩ := B.found i h j h1 h2
  refine ⟨k, Classical.byContradiction fun z => ?_, e⟩
  by_cases c : K = k
  · rw [c, e] at hK
    exact hK (List.mem_of_getElem? h2)
  · exact hK (q K (by omega))
/-- one more at the first hole of its way -/
theorem Tab.more (B : Tab t hs) {K : Nat} (hK : way t.mask h K ∉ t.place.toList) (hb : ∀ c, c < K → way t.mask h c ∈ t.place.toList) {j : Nat} (ej : j = way t.mask h K) :
    SetTable.below t.place j ≤ hs.length ∧ Tab (t.put j).1 (hs.take (SetTable.below t.place j) ++ h :: hs.drop (SetTable.below t.place j)) ∧ (t.put j).1.fill = hs.length + 1 := by
  have c1 : SetTable.below t.place j ≤ hs.length := by rw [← B.size]; exact (below_cut B.up j).1
  have c2 : SetTable.below t.place j ≤ t.place.toList.length := by rw [B.len]; exact c1
  have hm := put_place t j
  have sub : ∀ {x : Nat}, x ∈ t.place.toList → x ∈ (t.put j).1.place.toList := fun hx => by rw [hm]; exact mem_ins.2 (.inr hx)
  have hn : t.place[SetTable.below t.place j]? ≠ some j := fun e => by
    rw [← Array.getElem?_toList] at e
    rw [← ej] at hK
    exact hK (List.mem_of_getElem? e)
  have hz : (t.put j).1.place.size = hs.length + 1 := by
    rw [← Array.length_toList, hm, len_ins _ c2, B.len]
  refine ⟨c1, { up := ris_insert B.up hn, nod := put_dm B.nod j, size := by rw [len_ins _ c1]; exact hz, full := B.full, within := fun x hx => ?_, found := fun i h' j' e1 e2 => ?_ }, ?_⟩
  · rw [hm] at hx
    rcases mem_ins.1 hx with e | e
    · rw [e, ej]; exact way_in h K
    · exact B.within x e
  · rw [hm, tins_get _ c2] at e2
    rw [tins_get _ c1] at e1
    have old : ∀ i', hs[i']? = some h' → t.place.toList[i']? = some j' → ∃ k, way t.mask h' k = j' ∧ ∀ c, c < k → way t.mask h' c ∈ (t.put j).1.place.toList := fun i' a1 a2 => by
      obtain ⟨k, b1, b2⟩ := B.found i' h' j' a1 a2
      exact ⟨k, b1, fun c hc => sub (b2 c hc)⟩
    by_cases l1 : i < SetTable.below t.place j
    · rw [if_pos l1] at e1 e2
      exact old i e1 e2
    · rw [if_neg l1] at e1 e2
      by_cases l2 : i = SetTable.below t.place j
      · rw [if_pos l2] at e1 e2
        cases e1
        cases e2
        exact ⟨K, ej.symm, fun c hc => sub (hb c hc)⟩
      · rw [if_neg l2] at e1 e2
        exact old (i - 1) e1 e2
  · show (t.put j).1.place.size + (t.put j).1.dummies.size = _
    rw [hz, put_dm B.nod j]
    rfl

/-! ### laid anew -/
theorem free_hole (F : Full m) (owner : Array (Option Nat)) (h : Int) {j : Nat} (hj : j ≤ m) (hf : oAt owner j = none) :
    ∃ K, SetTable.layClean.free m owner (SetTable.turns m) (SetTable.bits h % (m + 1)) (SetTable.bits h) = some (way m h K) ∧ oAt owner (way m h K) = none ∧ ∀ c, c < K → oAt owner (way m h c) ≠ none := by
  obtain ⟨n, n1, n2⟩ := F.run h hj
  have at_ : way m h (off m (SetTable.bits h % (m + 1)) (SetTable.bits h) n) = j := by
    show (nth m _ _).j = j
    rw [nth_off, itL_run]
    exact n2
  obtain ⟨K, q1, q2, q3⟩ := first_at (p := fun c => oAt owner (way m h c) = none) (by
    show oAt owner (way m h (off m (SetTable.bits h % (m + 1)) (SetTable.bits h) n)) = none
    rw [at_]
    exact hf)
  have some_of : ∀ c, c < K → (oAt owner (way m h c)).isNone = false := fun c hc => by
    have z := q3 c hc
    cases q : oAt owner (way m h c) with
    | none => exact absurd q z
    | some _ => rfl
  exact ⟨K, free_spec m owner (SetTable.turns m) n _ _ K (by show n < m + 15; omega) q1 some_of (by rw [show oAt owner (nth m (runAt m (SetTable.bits h % (m + 1)) (SetTable.bits h)) K).j = none from q2]; rfl), q2, q3⟩
theorem own_next (F : Full m) {done : List Int} {owner : Array (Option Nat)} (W : L2.Own m done owner) (hl : done.length ≤ m) (h : Int) :
    ∃ j, SetTable.layClean.free m owner (SetTable.turns m) (SetTable.bits h % (m + 1)) (SetTable.bits h) = some j ∧ L2.Own m (done ++ [h]) (owner.setIfInBounds j (some done.length)) := by
  obtain ⟨ps, p1, p2⟩ := W.ps
  obtain ⟨j0, b1, b2⟩ := st_missing ps (m + 1) (by omega)
  have free0 : oAt owner j0 = none := Classical.byContradiction fun z => b2 (p2 j0 (by omega) z)
  obtain ⟨K, e1, e2, e3⟩ := free_hole F owner h (Nat.le_of_lt_succ b1) free0
  have inb : way m h K < owner.size := by rw [W.sz]; exact Nat.lt_succ_of_le (way_in h K)
  have self := oAt_set_self (some done.length) inb
  have stay : ∀ i, oAt owner i ≠ none → oAt (owner.setIfInBounds (way m h K) (some done.length)) i ≠ none := fun i z => by
    by_cases c : i = way m h K
    · rw [c, self]; simp
    · rw [oAt_set_ne _ c]; exact z
  refine ⟨_, e1, { sz := by rw [Array.size_setIfInBounds]; exact W.sz, at_ := fun j k hj q => ?_, all := fun k hk => ?_, ps := ⟨way m h K :: ps, by simp [p1], fun j hj q => ?_⟩ }⟩
  · by_cases c : j = way m h K
    · rw [c, self] at q
      cases q
      exact ⟨h, K, by simp, c.symm, fun k' hk' => stay _ (e3 k' hk')⟩
    · rw [oAt_set_ne _ c] at q
      obtain ⟨h', K', a1, a2, a3⟩ := W.at_ j k hj q
      exact ⟨h', K', by rw [List.getElem?_append_left (List.getElem?_eq_some_iff.mp a1).1]; exact a1, a2, fun k' hk' => stay _ (a3 k' hk')⟩
  · by_cases c : k < done.length
    · obtain ⟨j, a1, a2⟩ := W.all k c
      exact ⟨j, a1, by rw [oAt_set_ne _ fun z => by rw [z, e2] at a2; cases a2]; exact a2⟩
    · have : k = done.length := by simp at hk; omega
      rw [this]
      exact ⟨_, way_in h K, self⟩
  · by_cases c : j = way m h K
    · rw [c]; simp
    · rw [oAt_set_ne _ c] at q
      exact List.mem_cons_of_mem _ (p2 j hj q)
theorem own_fold (F : Full m) : ∀ (rest done : List Int) (owner : Array (Option Nat)), L2.Own m done owner → done.length + rest.length ≤ m → ∃ o', rest.foldl (stepF m) (some (owner, done.length)) = some (o', (done ++ rest).length) ∧ L2.Own m (done ++ rest) o'
  | [], done, owner, W, _ => by
    rw [List.append_nil]
    exact ⟨owner, rfl, W⟩
  | h :: rest, done, owner, W, hl => by
    have hl' : done.length + (rest.length + 1) ≤ m := hl
    obtain ⟨j, e, W1⟩ := own_next F W (by omega) h
    have z : (done ++ [h]).length = done.length + 1 := by simp
    obtain ⟨o', f, W2⟩ := own_fold F rest (done ++ [h]) _ W1 (by omega)
    rw [List.append_assoc, List.singleton_append] at f W2
    rw [z] at f
    refine ⟨o', ?_, W2⟩
    rw [List.foldl_cons, stepF_some e]
    exact f
theorem lay_all (F : Full m) {hs : Array Int} (hn : hs.size ≤ m) : ∃ owner, SetTable.layClean m hs = some owner ∧ L2.Own m hs.toList owner := by
  obtain ⟨o', f, W⟩ := own_fold F hs.toList [] _ (L2.Own.init m) (by simpa using hn)
  refine ⟨o', ?_, by simpa using W⟩
  rw [layClean_eq, show (some (Array.replicate (m + 1) none, 0) : Option (Array (Option Nat) × Nat)) = some (Array.replicate (m + 1) none, ([] : List Int).length) from rfl, f]
  rfl
end
end DL

/-! DS2: sets of tuples of ints, up to some hundred: laid anew, searched, filled. -/
namespace DL
open PySem PySem.Spec PyProof.Rows L2

theorem own_live {M : Nat} {owner : Array (Option Nat)} {hs : List Int} (W : L2.Own M hs owner) : ((liveOf M owner).map (·.2)).Perm (List.range hs.length) ∧ Ris ((liveOf M owner).map (·.1)) := by
  have r := (ris_live (fun j => owner.getD j none) (List.range (M + 1)) (by unfold Ris; first | exact List.pairwise_lt_range | exact List.pairwise_lt_range _)).1
  have r' : Ris ((liveOf M owner).map (·.1)) := r
  refine ⟨?_, r'⟩
  have has : ∀ k, k < hs.length → k ∈ (liveOf M owner).map (·.2) := fun k hk => by
    obtain ⟨j, j1, j2⟩ := W.all k hk
    exact List.mem_map.mpr ⟨(j, k), (mem_live W.sz).2 ⟨j1, j2⟩, rfl⟩
  refine perm_range hs.length _ (Nat.le_antisymm ?_ ?_) has
  · obtain ⟨ps, p1, p2⟩ := W.ps
    rw [List.length_map, ← p1, ← List.length_map (f := Prod.fst) (as := liveOf M owner)]
    refine nat_nodup_len _ ps (List.Pairwise.imp (fun h => Nat.ne_of_lt h) r') fun x hx => ?_
    obtain ⟨⟨y, k⟩, hq, rfl⟩ := List.mem_map.mp hx
    obtain ⟨b1, b2⟩ := (mem_live W.sz).1 hq
    exact p2 y b1 (by rw [b2]; simp)
  · have z := nat_nodup_len (List.range hs.length) ((liveOf M owner).map (·.2)) List.nodup_range fun k hk => has k (List.mem_range.mp hk)
    rwa [List.length_range] at z
theorem lay_tab (t : SetTable) {hs : Array Int} {wanted M : Nat} (hw : SetTable.sizeAbove wanted - 1 = M) (F : Full M) (hn : hs.size ≤ M) :
    ∃ t' order, t.relaid hs wanted = some (t', order) ∧ order.toList.Perm (List.range hs.size) ∧ Tab t' (order.toList.map fun i => hs.getD i 0) ∧ t'.mask = M ∧ t'.led = t.led ∧ t'.plain = t.plain := by
  obtain ⟨owner, e, W⟩ := lay_all F hn
  obtain ⟨pm, ris⟩ := own_live W
  have own_way : ∀ y k, (y, k) ∈ liveOf M owner → ∃ K, way M (hs.getD k 0) K = y ∧ ∀ c, c < K → way M (hs.getD k 0) c ∈ (liveOf M owner).map (·.1) := fun y k hq => by
    obtain ⟨b1, b2⟩ := (mem_live W.sz).1 hq
    obtain ⟨h0, K, a1, a2, a3⟩ := W.at_ y k b1 b2
    have e0 : hs.getD k 0 = h0 := by
      rw [Array.getD_eq_getD_getElem?, ← Array.getElem?_toList, a1]
      rfl
    rw [e0]
    refine ⟨K, a2, fun c hc => ?_⟩
    cases z : oAt owner (way M h0 c) with
    | none => exact absurd z (a3 c hc)
    | some k2 => exact List.mem_map.mpr ⟨(way M h0 c, k2), (mem_live W.sz).2 ⟨way_in h0 c, z⟩, rfl⟩
  refine ⟨tabOf t M owner, ((liveOf M owner).map (·.2)).toArray, by rw [relaid_eq, hw, e]; rfl, by simpa using pm, { up := ris, nod := rfl, size := ?_, full := F, within := fun x hx => ?_, found := fun i h j h1 h2 => ?_ }, rfl, rfl, rfl⟩
  · simp [tabOf]
  · have hx' : x ∈ (liveOf M owner).map (·.1) := hx
    obtain ⟨⟨y, k⟩, hq, rfl⟩ := List.mem_map.mp hx'
    exact ((mem_live W.sz).1 hq).1
  · have h1' : (((liveOf M owner).map (·.2)).map fun i => hs.getD i 0)[i]? = some h := h1
    have h2' : ((liveOf M owner).map (·.1))[i]? = some j := h2
    simp only [List.getElem?_map] at h1' h2'
    cases hq : (liveOf M owner)[i]? with
    | none => simp [hq] at h2'
    | some q =>
      simp only [hq, Option.map_some, Option.some.injEq] at h1' h2'
      rw [← h1', ← h2']
      exact own_way q.1 q.2 (List.mem_of_getElem? hq)

section
variable {P : Program} {w : World} {A : Around} {E : Value → Shared → Prop} {s : Shared}
/-- the set at a: the tuples of L, their hashes, their places -/
structure SetOfT (P : Program) (w : World) (h : Heap) (a : Addr) (L : List (Addr × List Int)) (es : Array (Int × Value)) (ep : Nat) (t : SetTable) : Prop where
  obj : ∃ o, h.get? a = some o ∧ o.ExactSet ∧ o.data = .set es ep t
  ents : es.toList = rowsOf P w L
  tab : Tab t (L.map fun p => thash P w p.2)
  once : (L.map (·.2)).Nodup
  tups : ∀ p ∈ L, IsT P w h p.2 p.1
  pl : t.plain = true
  ld : w.params.followText "set-order" = true ∨ t.led = true
  room : L.length * 5 < t.mask * 3
variable {a : Addr} {L : List (Addr × List Int)} {es : Array (Int × Value)} {ep : Nat} {t : SetTable}
theorem rows_len (h : es.toList = rowsOf P w L) : es.size = L.length := by
  have z := congrArg List.length h
  simpa [rowsOf] using z
theorem SetOfT.fit (R : SetOfT P w s.heap a L es ep t) : t.fits es.size = true := by
  have h1 := R.tab.size
  have h2 := rows_len R.ents
  have h3 := R.room
  rw [List.length_map] at h1
  unfold SetTable.fits SetTable.fill
  rw [R.tab.nod]
  simp only [Bool.and_eq_true, beq_iff_eq, decide_eq_true_eq]
  show t.place.size = es.size ∧ t.place.size + 0 ≤ t.mask
  omega
theorem SetOfT.ent (R : SetOfT P w s.heap a L es ep t) {i : Nat} {p : Addr × List Int} (h : L[i]? = some p) : es[i]? = some (thash P w p.2, Value.ref p.1) := by
  rw [← Array.getElem?_toList, R.ents]
  simp [rowsOf, h]
theorem nth_dummy (m : Nat) : ∀ (n : Nat) (p : SetTable.Probe), p.dummy = none → (nth m p n).dummy = none
  | 0, _, h => h
  | n + 1, p, h => nth_dummy m n (adv m p) (by unfold adv; split <;> exact h)
/-- a search from the c-th step of its way -/
theorem look_on (R : SetOfT P w s.heap a L es ep t) {x : Addr} {k : List Int} (hx : IsT P w s.heap k x) (hu : A.units < cLine) {h : Int} (eh : h = thash P w k) {K : Nat} (hf : K < 10 * SetTable.turns t.mask)
    (hK : way t.mask h K ∉ t.place.toList) (hKb : ∀ c, c < K → way t.mask h c ∈ t.place.toList) {Q : SetFound → Shared → Prop} (yes : k ∈ L.map (·.2) → Q (.there none) s) (no : k ∉ L.map (·.2) → Q (.free (way t.mask h K) false) s) :
    ∀ (f c : Nat) (st : Option SetTable.Probe), st.getD (t.probeStart h) = nth t.mask (runAt t.mask (SetTable.bits h % (t.mask + 1)) (SetTable.bits h)) c → c ≤ K → K < f + c →
      (∀ (i : Nat) p, L[i]? = some p → p.2 = k → ∃ c', c ≤ c' ∧ c' < K ∧ t.place.toList[i]? = some (way t.mask h c')) →
      wpAny (model P w) A (setSearchFrom a (.ref x) h true f st) Q E s
  | 0, c, st, _, h1, h2, _ => absurd h2 (by omega)
  | f + 1, c, st, hst, hc, hfc, hre => by
    obtain ⟨o, ho, _, hd⟩ := R.obj
    have at_ : ∀ q, nth t.mask (nth t.mask (runAt t.mask (SetTable.bits h % (t.mask + 1)) (SetTable.bits h)) c) q = nth t.mask (runAt t.mask (SetTable.bits h % (t.mask + 1)) (SetTable.bits h)) (c + q) := fun q => (nth_add t.mask c _ q).symm
    have at_j : ∀ q, (nth t.mask (nth t.mask (runAt t.mask (SetTable.bits h % (t.mask + 1)) (SetTable.bits h)) c) q).j = way t.mask h (c + q) := fun q => congrArg SetTable.Probe.j (at_ q)
    have hash_at : ∀ (i : Nat) p, L[i]? = some p → (es[i]?.map (·.1)).getD 0 = thash P w p.2 := fun i p hp => by
      rw [R.ent hp]
      rfl
    have eK : c + (K - c) = K := by omega
    rw [setSearchFrom_succ]
    refine wpAny_bind (wpAny_setState_of ho hd R.fit ?_)
    dsimp only
    refine wp_if_neg (by unfold SetTable.gaveWay; rw [R.tab.full.odd]; decide) ?_
    try refine wpAny_bind (wpAny_pure ?_)
    have pr := go_spec t R.tab.up R.tab.nod (fun i => (es[i]?.map (·.1)).getD 0) h (10 * SetTable.turns t.mask) (K - c) (nth t.mask (runAt t.mask (SetTable.bits h % (t.mask + 1)) (SetTable.bits h)) c) (nth_dummy t.mask c _ rfl) (by omega)
      (fun q hq => by rw [at_j]; exact hKb _ (by omega)) (by rw [at_j, eK]; exact hK)
    have asked : t.probe (fun i => (es[i]?.map (·.1)).getD 0) h (st.getD (t.probeStart h)) = SetTable.probe.go t (fun i => (es[i]?.map (·.1)).getD 0) h (10 * SetTable.turns t.mask) (nth t.mask (runAt t.mask (SetTable.bits h % (t.mask + 1)) (SetTable.bits h)) c) := by
      rw [hst]
      rfl
    rw [asked]
    rcases pr with ⟨q, i, hq, hi, hh, before, e⟩ | ⟨before, e⟩
    · rw [e, at_j, at_]
      rw [at_j] at hi
      dsimp only
      have il : i < L.length := by
        have z1 := (List.getElem?_eq_some_iff.mp hi).1
        rw [R.tab.len, List.length_map] at z1
        exact z1
      obtain ⟨p, hp⟩ : ∃ p, L[i]? = some p := ⟨_, List.getElem?_eq_getElem il⟩
      have pm := List.mem_of_getElem? hp
      have slot : t.slot (way t.mask h (c + q)) = .live i := slot_live R.tab.up hi
      have go : wpAny (model P w) A (searchRest a (.ref x) h true f es t (way t.mask h (c + q)) i (nth t.mask (runAt t.mask (SetTable.bits h % (t.mask + 1)) (SetTable.bits h)) (c + (q + 1)))) Q E s := by
        unfold searchRest
        rw [R.ent hp]
        dsimp only
        refine wpAny_bind (wpAny_holding (wpAny_eqBool_tuple hu (R.tups p pm) hx ?_))
        refine wpAny_bind (wpAny_setState_of ho hd R.fit ?_)
        dsimp only
        by_cases same : p.2 = k
        · refine wp_if_pos (by simp [same]) (wpAny_pure (yes (List.mem_map.mpr ⟨p, pm, same⟩)))
        · refine wp_if_neg (by simp [same]) ?_
          try refine wpAny_bind (wpAny_pure ?_)
          rw [sameMem]
          dsimp only
          simp only [if_true, slot, R.ent hp]
          refine wpAny_bind (wpAny_isSame_ref_self (wpAny_bind (wpAny_pure ?_)))
          simp only [if_true]
          refine wp_if_neg (by simp [same]) ?_
          refine look_on R hx hu eh hf hK hKb yes no f (c + (q + 1)) _ rfl (by omega) (by omega) fun i0 p0 h0 hk0 => ?_
          obtain ⟨c', a1, a2, a3⟩ := hre i0 p0 h0 hk0
          refine ⟨c', Classical.byContradiction fun z => ?_, a2, a3⟩
          by_cases y : c' = c + q
          · rw [y] at a3
            have s0 := slot_live R.tab.up a3
            rw [slot] at s0
            cases s0
            rw [hp] at h0
            cases h0
            exact same hk0
          · refine before (c' - c) i0 (by omega) (by rw [at_j, show c + (c' - c) = c' by omega]; exact a3) ?_
            rw [eh, ← hk0]
            exact hash_at i0 p0 h0
      cases hl : t.led with
      | true =>
        refine wp_if_neg (by simp) ?_
        try refine wpAny_bind (wpAny_pure ?_)
        exact go
      | false =>
        refine wp_if_pos (by simp) ?_
        refine wpAny_bind (seen_tup hx (fun y hy => ?_) ?_)
        · obtain ⟨u, hu1, rfl⟩ := List.mem_map.mp hy
          have hu2 : u ∈ es.toList := by
            have : u ∈ es ∧ u.1 = h := by simpa using hu1
            simpa using this.1
          rw [R.ents] at hu2
          obtain ⟨p2, g1, g2⟩ := List.mem_map.mp hu2
          exact ⟨p2.2, p2.1, by rw [← g2], R.tups p2 g1⟩
        · refine wp_if_neg (by decide) ?_
          try refine wpAny_bind (wpAny_pure ?_)
          exact go
    · rw [e, at_j, eK]
      dsimp only
      refine wpAny_pure (no fun hm => ?_)
      obtain ⟨p0, m0, k0⟩ := List.mem_map.mp hm
      obtain ⟨i0, hi0, e0⟩ := List.getElem_of_mem m0
      have g0 : L[i0]? = some p0 := by rw [List.getElem?_eq_getElem hi0, e0]
      obtain ⟨c', a1, a2, a3⟩ := hre i0 p0 g0 k0
      refine before (c' - c) i0 (by omega) (by rw [at_j, show c + (c' - c) = c' by omega]; exact a3) ?_
      rw [eh, ← k0]
      exact hash_at i0 p0 g0
theorem look_set (R : SetOfT P w s.heap a L es ep t) {x : Addr} {k : List Int} (hx : IsT P w s.heap k x) (hu : A.units < cLine) {Q : SetFound → Shared → Prop} (yes : k ∈ L.map (·.2) → Q (.there none) s)
    (no : ∀ K, k ∉ L.map (·.2) → way t.mask (thash P w k) K ∉ t.place.toList → (∀ c, c < K → way t.mask (thash P w k) c ∈ t.place.toList) → Q (.free (way t.mask (thash P w k) K) false) s) :
    wpAny (model P w) A (setSearch a (.ref x) (thash P w k) true) Q E s := by
  have rm := R.room
  obtain ⟨K, k1, k2, k3⟩ := R.tab.hole (by rw [List.length_map]; omega) (thash P w k)
  have tp := R.tab.full.top
  have small : K < 100000 := by
    have z : K < 10 * (t.mask + 15) := k1
    omega
  unfold setSearch
  refine look_on R hx hu rfl k1 k2 k3 yes (fun n => no K n k2 k3) 100000 0 none rfl (Nat.zero_le _) (by omega) fun i p hp hk => ?_
  have il : i < t.place.toList.length := by
    rw [R.tab.len, List.length_map]
    exact (List.getElem?_eq_some_iff.mp hp).1
  obtain ⟨c, c1, c2⟩ := R.tab.ahead k2 (i := i) (j := t.place.toList[i]) (by rw [List.getElem?_map, hp, ← hk]; rfl) (List.getElem?_eq_getElem il)
  exact ⟨c, Nat.zero_le _, c1, by rw [c2]; exact List.getElem?_eq_getElem il⟩
end
end DL

set_option maxHeartbeats 8000000
/-! DS3: a set of tuples of ints is filled. -/
namespace DL
open PySem PySem.Spec PyProof.Rows L2

section
variable {P : Program} {w : World} {A : Around} {E : Value → Shared → Prop} {s : Shared} {a : Addr} {L : List (Addr × List Int)} {es : Array (Int × Value)} {ep : Nat} {t : SetTable}
/-- a new, larger table -/
theorem lay_set {o : Obj} (ho : s.heap.get? a = some o) (hx : o.ExactSet) (hd : o.data = .set es ep t) (ents : es.toList = rowsOf P w L) (hz : t.place.size = es.size) (hn : t.dummies = #[]) (hm : es.size ≤ t.mask) (once : (L.map (·.2)).Nodup)
    (tups : ∀ p ∈ L, IsT P w s.heap p.2 p.1) (pl : t.plain = true) (ld : w.params.followText "set-order" = true ∨ t.led = true) {wanted M : Nat} (hw : SetTable.sizeAbove wanted - 1 = M) (F : Full M) (h512 : SetTable.sizeAbove wanted ≤ 512) (room : L.length * 5 < M * 3)
    {Q : Unit → Shared → Prop} (done : ∀ h' L' es' ep' t', Heap.SameBut a s.heap h' → SetOfT P w h' a L' es' ep' t' → t'.mask = M → L'.Perm L → Q () { s with heap := h' }) : wpAny (model P w) A (setRelay a wanted) Q E s := by
  have n1 := rows_len ents
  obtain ⟨t', order, e, pm, B, m1, m2, m3⟩ := lay_tab t (hs := es.map (·.1)) (wanted := wanted) hw F (by rw [Array.size_map]; omega)
  rw [Array.size_map, n1] at pm
  obtain ⟨L2, r1, r2, r3⟩ := order_rows L es order ents pm
  rw [← r3] at B
  have n2 : (order.filterMap (es[·]?)).size = es.size := by rw [rows_len r1, r2.length_eq, n1]
  rw [setRelay_eq]
  refine wpAny_bind (wpAny_setState_of ho hd (by
    unfold SetTable.fits SetTable.fill
    rw [hn]
    simp only [Bool.and_eq_true, beq_iff_eq, decide_eq_true_eq]
    show t.place.size = es.size ∧ t.place.size + 0 ≤ t.mask
    omega) ?_)
  dsimp only
  refine wp_if_neg (by rw [sizeLine_eq]; omega) ?_
  try refine wpAny_bind (wpAny_pure ?_)
  rw [e]
  dsimp only
  refine wpAny_bind ?_
  refine wp_if_neg (by rw [n2]; simp) ?_
  try refine wpAny_bind (wpAny_pure ?_)
  refine wpAny_pure ?_
  dsimp only
  have tp := F.top
  refine wpAny_storeSet_of ho hd ?_ (by rw [n2, n1, sizeLine_eq]; omega)
  have but : Heap.SameBut a s.heap (s.heap.update a (Obj.putSet (order.filterMap (es[·]?)) t')) := Heap.SameBut.update ..
  exact done _ L2 _ (ep + 1) t' but { obj := ⟨_, store_at ho hd, ⟨hx.1, hx.2.1, hx.2.2⟩, rfl⟩, ents := r1, tab := B, once := (r2.map (·.2)).nodup_iff.mpr once, tups := fun p hp => isT_same (tups p (r2.mem_iff.mp hp)) ho hd but, pl := by rw [m3]; exact pl, ld := by rw [m2]; exact ld, room := by rw [r2.length_eq, m1]; exact room } m1 r2
/-- the sizes that come -/
theorem grow_sizes : SetTable.sizeAbove (SetTable.grown 5) = 32 ∧ SetTable.sizeAbove (SetTable.grown 19) = 128 ∧ SetTable.sizeAbove (SetTable.grown 77) = 512 := ⟨by decide +kernel, by decide +kernel, by decide +kernel⟩
/-- the masks that come -/
def Msk (t : SetTable) : Prop := t.mask = 7 ∨ t.mask = 31 ∨ t.mask = 127 ∨ t.mask = 511
/-- one is added -/
theorem add_set (R : SetOfT P w s.heap a L es ep t) (km : Msk t) {x : Addr} {k : List Int} (hx : IsT P w s.heap k x) (hu : A.units < cLine) (few : L.length < 300) {Q : Bool → Shared → Prop}
    (done : ∀ b h' L' es' ep' t', Heap.SameBut a s.heap h' → SetOfT P w h' a L' es' ep' t' → Msk t' → (k ∈ L.map (·.2) → L' = L) → (k ∉ L.map (·.2) → L'.Perm ((x, k) :: L)) → Q b { s with heap := h' }) :
    wpAny (model P w) A (setAddHashed a (.ref x) (thash P w k)) Q E s := by
  obtain ⟨o, ho, ex, hd⟩ := R.obj
  have n1 := rows_len R.ents
  have rm := R.room
  unfold setAddHashed
  refine wpAny_holding ?_
  rw [show (100000 : Nat) = 99999 + 1 from rfl, setAddHashedIn_succ]
  refine wpAny_bind (wpAny_setState_of ho hd R.fit ?_)
  dsimp only
  refine wp_if_neg (by simp [byScan, Value.scannable]) ?_
  try refine wpAny_bind (wpAny_pure ?_)
  refine wpAny_bind (look_set R hx hu (fun hm => ?_) fun K hm k2 k3 => ?_)
  · exact wpAny_pure (done false s.heap L es ep t (Heap.SameBut.refl a s.heap) R km (fun _ => rfl) fun z => absurd hm z)
  · dsimp only
    refine wpAny_bind (wpAny_setState_of ho hd R.fit ?_)
    dsimp only
    obtain ⟨p1, B, fl⟩ := R.tab.more k2 k3 (h := thash P w k) rfl
    have kept : (t.put (way t.mask (thash P w k) K)).1.mask = t.mask ∧ (t.put (way t.mask (thash P w k) K)).1.led = t.led ∧ (t.put (way t.mask (thash P w k) K)).1.plain = t.plain ∧ (t.put (way t.mask (thash P w k) K)).2 = SetTable.below t.place (way t.mask (thash P w k) K) := ⟨rfl, rfl, rfl, rfl⟩
    generalize t.put (way t.mask (thash P w k) K) = pt at B fl kept ⊢
    obtain ⟨t1, q⟩ := pt
    dsimp only at B fl kept ⊢
    obtain ⟨g1, g2, g3, g4⟩ := kept
    rw [← g4] at p1 B
    clear g4
    have pl1 : t1.plain = true := by rw [g3]; exact R.pl
    first
      | (refine wpAny_bind ?_; refine wp_if_pos pl1 ?_; refine hashBy_tup hx ?_)
      | refine wp_if_pos pl1 (wpAny_bind (hashBy_tup hx ?_))
    simp only [if_true]
    have pm := put_perm L q (x, k)
    have hL : (L.take q ++ (x, k) :: L.drop q).map (fun p => thash P w p.2) = (L.map fun p => thash P w p.2).take q ++ thash P w k :: (L.map fun p => thash P w p.2).drop q := by
      rw [List.map_append, List.map_cons, List.map_take, List.map_drop]
    have ents1 : (SetTable.insertAt es q (thash P w k, Value.ref x)).toList = rowsOf P w (L.take q ++ (x, k) :: L.drop q) := by
      rw [SetTable.toList_insertAt, rows_put, R.ents]
    rw [← hL] at B
    generalize L.take q ++ (x, k) :: L.drop q = L1 at pm B ents1
    have n3 : L1.length = L.length + 1 := pm.length_eq
    have n4 : (SetTable.insertAt es q (thash P w k, Value.ref x)).size = L.length + 1 := by rw [rows_len ents1, n3]
    generalize SetTable.insertAt es q (thash P w k, Value.ref x) = es1 at ents1 n4 ⊢
    have once1 : (L1.map (·.2)).Nodup := by
      refine (pm.map (·.2)).nodup_iff.mpr ?_
      rw [List.map_cons, List.nodup_cons]
      exact ⟨hm, R.once⟩
    refine wpAny_bind (wpAny_storeSet_of ho hd ?_ (by rw [n4, sizeLine_eq]; omega))
    have but : Heap.SameBut a s.heap (s.heap.update a (Obj.putSet es1 t1)) := Heap.SameBut.update ..
    have ho1 := store_at (es' := es1) (t' := t1) ho hd
    generalize s.heap.update a (Obj.putSet es1 t1) = h1 at but ho1 ⊢
    have tups1 : ∀ p ∈ L1, IsT P w h1 p.2 p.1 := fun p hp => by
      rcases List.mem_cons.mp (pm.mem_iff.mp hp) with e | e
      · rw [e]; exact isT_same hx ho hd but
      · exact isT_same (R.tups p e) ho hd but
    have ld1 : w.params.followText "set-order" = true ∨ t1.led = true := by rw [g2]; exact R.ld
    have km1 : Msk t1 := by unfold Msk; rw [g1]; exact km
    have tooF : t1.tooFull = decide (t.mask * 3 ≤ (L.length + 1) * 5) := by
      unfold SetTable.tooFull
      rw [fl, List.length_map, g1]
    by_cases hf : t.mask * 3 ≤ (L.length + 1) * 5
    · have tf : t1.tooFull = true := by rw [tooF]; exact decide_eq_true hf
      first
        | (refine wpAny_bind ?_; refine wp_if_pos (by simp [tf]) ?_)
        | (refine wp_if_pos (by simp [tf]) ?_; refine wpAny_bind ?_)
      rw [n1]
      have sz1 : t1.place.size = es1.size := by rw [B.size, List.length_map, n3, n4]
      have next : ∀ M, SetTable.sizeAbove (SetTable.grown (L.length + 1)) - 1 = M → Full M → SetTable.sizeAbove (SetTable.grown (L.length + 1)) ≤ 512 → (L.length + 1) * 5 < M * 3 → (M = 31 ∨ M = 127 ∨ M = 511) → L.length + 1 ≤ t.mask →
          wpAny (model P w) A (setRelay a (SetTable.grown (L.length + 1))) (fun _ s' => wpAny (model P w) A (pure true) Q E s') E { s with heap := h1 } := fun M a1 a2 a3 a4 a5 a6 =>
        lay_set (s := { s with heap := h1 }) ho1 ⟨ex.1, ex.2.1, ex.2.2⟩ rfl ents1 sz1 B.nod (by rw [n4, g1]; exact a6) once1 tups1 pl1 ld1 a1 a2 a3 (by rw [n3]; exact a4) fun h2 L2 es2 ep2 t2 b2 R2 m2 pm2 => by
          refine wpAny_pure (done true h2 L2 es2 ep2 t2 (but.trans b2) R2 ?_ (fun z => absurd z hm) fun _ => pm2.trans pm)
          unfold Msk
          rw [m2]
          omega
      obtain ⟨z1, z2, z3⟩ := grow_sizes
      rcases km with e | e | e | e
      · have : L.length = 4 := by omega
        exact next 31 (by rw [this, z1]) (full_of (.inr (.inl rfl))) (by rw [this, z1]; decide) (by omega) (by omega) (by omega)
      · have : L.length = 18 := by omega
        exact next 127 (by rw [this, z2]) (full_of (.inr (.inr rfl))) (by rw [this, z2]; decide) (by omega) (by omega) (by omega)
      · have : L.length = 76 := by omega
        exact next 511 (by rw [this, z3]) full_511 (by rw [this, z3]; decide) (by omega) (by omega) (by omega)
      · omega
    · have tf : t1.tooFull = false := by rw [tooF]; exact decide_eq_false hf
      first
        | refine wp_if_neg (by simp [tf]) ?_
        | (refine wpAny_bind ?_; refine wp_if_neg (by simp [tf]) ?_; refine wpAny_pure ?_)
      refine wpAny_pure (done true h1 L1 es1 (ep + 1) t1 but { obj := ⟨_, ho1, ⟨ex.1, ex.2.1, ex.2.2⟩, rfl⟩, ents := ents1, tab := B, once := once1, tups := tups1, pl := pl1, ld := ld1, room := by rw [n3, g1]; omega } km1 (fun z => absurd z hm) fun _ => pm)

theorem SetOfT.keep {h h' : Heap} (R : SetOfT P w h a L es ep t) (ha : ∀ o, h.get? a = some o → h'.get? a = some o) (ht : ∀ p ∈ L, IsT P w h' p.2 p.1) : SetOfT P w h' a L es ep t := by
  obtain ⟨o, ho, r⟩ := R.obj
  exact { R with obj := ⟨o, ha o ho, r⟩, tups := ht }
theorem set_new {h : Heap} (ho : h.get? a = some { cls := .type "set", dict := none, data := .set #[] 0 (.fresh 0 0 (!w.params.followText "set-order")) }) : SetOfT P w h a [] #[] 0 (.fresh 0 0 (!w.params.followText "set-order")) where
  obj := ⟨_, ho, ⟨rfl, rfl, rfl⟩, rfl⟩
  ents := rfl
  tab := { up := List.Pairwise.nil, nod := rfl, size := rfl, full := full_of (.inl rfl), within := (fun x hx => by cases hx), found := (fun i h j hi => by simp at hi) }
  once := List.nodup_nil
  tups := fun p hp => (by cases hp)
  pl := rfl
  ld := by
    cases q : w.params.followText "set-order"
    · exact .inr rfl
    · exact .inl rfl
  room := by
    show 0 * 5 < 7 * 3
    decide
/-- set.update's turns -/
theorem fill_set {I : Addr} {fp wr : List Addr} {G : Array GenState → Array GenState → Prop} {n : Nat} {Pv : Nat → Value → Prop} {St : Nat → Shared → Prop} {R : Result → Shared → Prop} (W : WalksS P w A.in1 I fp wr G n Pv St) (S : Addr) (hSf : S ∉ fp) (ks : List (Addr × List Int)) (hn : n = ks.length)
    (few : ks.length < 300) (hval : ∀ i v, Pv i v → ∃ p, ks[i]? = some p ∧ v = .ref p.1) (h0 : Heap) (hk : ∀ p ∈ ks, IsT P w h0 p.2 p.1) (hS0 : h0.get? S = none) (hw0 : ∀ b ∈ wr, h0.get? b = none) (hu : A.in1.units < cLine) :
    ∀ (k i : Nat) (s : Shared), n - i = k → i ≤ n → St i s → (∀ b o, h0.get? b = some o → s.heap.get? b = some o) → (∃ L es ep t, SetOfT P w s.heap S L es ep t ∧ Msk t ∧ Got ks i L) →
      (∀ s' L es ep t, Moved (S :: wr) G s s' → SetOfT P w s'.heap S L es ep t → Got ks n L → (∀ b o, h0.get? b = some o → s'.heap.get? b = some o) → R (.ok (.ret .none)) s') → codeAny (model P w) A (.builtin "set.update.loop" ⟨[.ref S, .ref I], []⟩) R s := by
  have nSw : S ∉ wr := fun h => hSf (W.sub _ h)
  have up : ∀ b ∈ wr, b ∈ S :: wr := fun b hb => List.mem_cons_of_mem _ hb
  have moved : ∀ {s s' : Shared}, Moved wr G s s' → (∀ b o, h0.get? b = some o → s.heap.get? b = some o) → ∀ b o, h0.get? b = some o → s'.heap.get? b = some o := fun {s s'} hm hkp b o e =>
    hm.heap b o (fun hb => by rw [hw0 b hb] at e; cases e) (hkp b o e)
  have tk : ∀ {L : List (Addr × List Int)} {i : Nat} {h : Heap}, Got ks i L → (∀ b o, h0.get? b = some o → h.get? b = some o) → ∀ p ∈ L, IsT P w h p.2 p.1 := fun g hkp p hp => isT_keep (hk p (List.mem_of_mem_take (g.sub p hp))) hkp
  intro k
  induction k with
  | zero =>
    rintro i s hki hi hst hkp ⟨L, es, ep, t, hS, _, g⟩ hR
    have ei : i = n := by omega
    subst ei
    refine codeAny_builtin F.entry_set_update_loop ?_
    rw [Around.under_plainId F.plain_set_update_loop _]
    show wpAny _ A.in1 (pyNext (.ref I) >>= _) _ _ s
    refine wpAny_bind (W.done s _ _ hst fun s' hm => ?_)
    show wpAny _ A.in1 (ret Value.none) _ _ s'
    have hkp' := moved hm hkp
    exact wpAny_pure (hR s' L es ep t (hm.mono up) (hS.keep (fun o e => hm.heap S o nSw e) (tk g hkp')) g hkp')
  | succ k ih =>
    rintro i s hki hi hst hkp ⟨L, es, ep, t, hS, km, g⟩ hR
    have lt : i < n := by omega
    refine codeAny_builtin F.entry_set_update_loop ?_
    rw [Around.under_plainId F.plain_set_update_loop _]
    show wpAny _ A.in1 (pyNext (.ref I) >>= _) _ _ s
    refine wpAny_bind (W.item i s _ _ lt hst fun v s' hP hst' hm => ?_)
    obtain ⟨p, hp, rfl⟩ := hval i v hP
    have hkp' := moved hm hkp
    have hS' : SetOfT P w s'.heap S L es ep t := hS.keep (fun o e => hm.heap S o nSw e) (tk g hkp')
    have hx : IsT P w s'.heap p.2 p.1 := isT_keep (hk p (List.mem_of_getElem? hp)) hkp'
    show wpAny _ A.in1 (holding [Value.ref p.1] (setAdd S (.ref p.1)) >>= _) _ _ s'
    refine wpAny_bind (wpAny_holding ?_)
    unfold setAdd
    refine wpAny_holding (wpAny_bind (wpAny_pyHash_tuple hu hx ?_))
    refine add_set (s := { s' with toks := s'.toks + (p.2.length + 1) }) hS' km hx hu (by have := g.len; omega) fun b h' L' es' ep' t' sb hS2 km2 c1 c2 => ?_
    have g' : Got ks (i + 1) L' := by
      by_cases c : p.2 ∈ L.map (·.2)
      · rw [c1 c]; exact g.same hp c
      · exact g.more hp (c2 c)
    have nS : ∀ b o, h0.get? b = some o → b ≠ S := fun b o e z => by rw [z, hS0] at e; cases e
    refine wpAny_pure ⟨plainId_quiet F.plain_set_update_loop _, ih (i + 1) _ (by omega) lt (W.frame _ s' _ _ hst' (Nat.le_add_right _ _) fun b hb o e => ?_) (fun b o e => (sb.2 b (nS b o e)).trans (hkp' b o e)) ⟨L', es', ep', t', hS2, km2, g'⟩ fun s'' L2 es2 ep2 t2 hm2 hS3 g2 hkp2 => ?_⟩
    · rw [sb.2 b fun z : b = S => hSf (by rw [← z]; exact hb)]
      exact e
    · refine hR s'' L2 es2 ep2 t2 (Moved.trans W.gtrans ((hm.mono up).then_heap (Nat.le_add_right _ _) fun b o hb e => ?_) hm2) hS3 g2 hkp2
      rw [sb.2 b fun z : b = S => hb (by rw [z]; exact List.mem_cons_self)]
      exact e
end
end DL

/-! DS4: len(set(xs)), xs a list of tuples of ints. -/
namespace DL
open PySem PySem.Spec PyProof.Rows L2
variable {T : Tb}

/-- a set just made -/
abbrev newSet (w : World) : Obj := { cls := .type "set", dict := none, data := .set #[] 0 (.fresh 0 0 (!w.params.followText "set-order")) }
/-- what set(xs) leaves -/
def SetMade (P : Program) (w : World) (s : Shared) (ks : List (Addr × List Int)) (s' : Shared) : Prop :=
  ∃ h' tk L es ep t, s' = { s with heap := h', toks := tk } ∧ SetOfT P w h' s.heap.objs.size L es ep t ∧ Got ks ks.length L ∧ ∀ b o, s.heap.get? b = some o → h'.get? b = some o
section
variable {P : Program} {w : World} {A : Around} {E : Value → Shared → Prop} {s : Shared}
set_option maxHeartbeats 6400000 in
theorem make_set {l : Addr} {items : Array Value} (ks : List (Addr × List Int)) {Q : Value → Shared → Prop} (hh : A.handled = none) (hl : s.heap.IsList l items) (hit : items.toList = ks.map fun p => Value.ref p.1) (hk : ∀ p ∈ ks, IsT P w s.heap p.2 p.1)
    (few : ks.length < 300) (hu : A.units + 3 < cLine) (done : ∀ s', SetMade P w s ks s' → Q (.ref s.heap.objs.size) s') : wpAny (model P w) A (call (.type "set") [.ref l]) Q E s := by
  have nk : items.size = ks.length := by simpa using congrArg List.length hit
  have pos : ∀ (i : Nat) (v : Value), items[i]? = some v → ∃ p, ks[i]? = some p ∧ v = .ref p.1 := fun i v hv => by
    have z : (ks.map fun p => Value.ref p.1)[i]? = some v := by rw [← hit, Array.getElem?_toList]; exact hv
    rw [List.getElem?_map] at z
    obtain ⟨p, z1, z2⟩ := Option.map_eq_some_iff.mp z
    exact ⟨p, z1, z2.symm⟩
  have beyond : ∀ b, s.heap.objs.size ≤ b → s.heap.get? b = none := fun b hb => by
    cases q : s.heap.get? b with
    | none => rfl
    | some o => exact absurd (Nat.lt_of_lt_of_le (Heap.lt_size q) hb) (Nat.lt_irrefl b)
  have lS : l < s.heap.objs.size := by
    obtain ⟨o, ho, _⟩ := hl
    exact Heap.lt_size ho
  obtain ⟨c, tl, hmro⟩ := F.called_set.mro
  have f1 := F.called_set.made
  have f2 := F.called_set.sub
  refine wpAny_call (codeAny_of_tree ?_)
  show wpAny _ _ (callAny (.type "set") _) _ _ _
  refine wpAny_pure ⟨Code.quiet_builtin _ (by decide +kernel), codeAny_builtin F.entry_type_call ?_⟩
  rw [Around.under_plain (weight_type_call_type "set" [.ref l] []) rfl]
  have f3 := F.called_set.notType
  have f4 := F.called_set.canCreate
  have f5 := F.typeCall_set_1 (.ref l)
  repeat (any_goals (first | assumption | wp_step))
  refine codeAny_mono (code_set_led1 (.ref l) (E := E) (Q₁ := fun v s₁ => v = .ref s.heap.objs.size ∧ s₁ = { s with heap := s.heap.push (newSet w) }) ⟨rfl, rfl⟩) fun r s₁ hr => ?_
  cases r with
  | error e => exact hr
  | ok fl =>
    cases fl with
    | next => exact hr.elim
    | brk => exact hr.elim
    | cont => exact hr.elim
    | ret v =>
      obtain ⟨rfl, rfl⟩ := hr
      have g1 : (s.heap.push (newSet w)).get? s.heap.objs.size = some (newSet w) := Heap.get?_push_size _ rfl
      have g2 : Shared.TypeIs { s with heap := s.heap.push (newSet w) } (.ref s.heap.objs.size) "set" := ⟨_, g1, rfl⟩
      have g3 := F.called_set.init.lookup
      have g4 := F.called_set.init.bind (.ref s.heap.objs.size)
      repeat (any_goals (first | assumption | wp_step))
      refine codeAny_mono (codeAny_call_builtin (R := wants (fun r s₂ => r = .none ∧ SetMade P w s ks s₂) E) F.called_set.init.plain F.entry_set_init (check_set_init_1 g2 ?_)) fun r₂ s₂ hr₂ => ?_
      · obtain ⟨⟨k1, k2, k3, k4⟩, hol, hcl, nl, hdl⟩ := hl
        simp only at hcl hdl
        subst hcl; subst hdl
        have g5 := Heap.get?_push_of_some (newSet w) hol
        have g6 : (s.heap.push (newSet w)).IsList l items := ⟨_, g5, rfl, nl, rfl⟩
        have u1 := F.sub_list_set
        have u2 := F.sub_list_frozenset
        have u3 : (Value.type "list" == Value.type "dict") = false := by decide
        unfold Builtin.«set.__init__» noKeywords Builtin.Frozenset.updateFrom
        generalize hIt : pyIter = It
        wp_walk
        subst hIt
        refine wpAny_pyIter_list g6 (wpAny_bind (wpAny_runValue ?_))
        have z1 : (s.heap.push (newSet w)).objs.size = s.heap.objs.size + 1 := Heap.size_push ..
        have z2 : A.in1.in1.in1.handled = none := by simp [hh]
        refine fill_set ((Walks.list z2 _ l (by rw [z1]; exact Nat.ne_of_lt (Nat.lt_succ_of_lt lS)) items).toS) s.heap.objs.size (by
          rw [z1, List.mem_cons, List.mem_singleton]
          rintro (z | z)
          · exact absurd z (Nat.ne_of_lt (Nat.lt_succ_self _))
          · exact absurd z (Nat.ne_of_gt lS)) ks nk few pos s.heap hk (beyond _ (Nat.le_refl _)) (fun b hb => beyond b (by rw [List.mem_singleton.mp hb, z1]; exact Nat.le_succ _)) hu (items.size - 0) 0 _ (by omega) (Nat.zero_le _)
          ⟨⟨_, Heap.get?_push_size _ rfl, rfl, rfl⟩, g6.push _⟩ (fun b o e => Heap.get?_push_of_some _ (Heap.get?_push_of_some _ e)) ⟨[], #[], 0, _, set_new (Heap.get?_push_of_some _ g1), .inl rfl, Got.zero ks⟩ fun s' L es ep t hm hS g hkp => ?_
        obtain ⟨h', y1, y2, tk, y3⟩ := s'
        cases (show y1 = s.gens from hm.gens)
        cases (show y2 = s.drawn from hm.drawn)
        cases (show y3 = s.os from hm.os)
        rw [nk] at g
        show wpAny _ _ _ _ _ _
        refine wpAny_pure ?_
        show wpAny _ _ (ret Value.none) _ _ _
        exact wpAny_pure ⟨rfl, h', tk, L, es, ep, t, rfl, hS, g, hkp⟩
      · cases r₂ with
        | error e => exact hr₂
        | ok fl₂ =>
          cases fl₂ with
          | ret r =>
            obtain ⟨rfl, hS⟩ := hr₂
            repeat (any_goals (first | assumption | wp_step))
            exact done _ hS
          | next => exact hr₂.elim
          | brk => exact hr₂.elim
          | cont => exact hr₂.elim
end
end DL

set_option maxHeartbeats 4000000
/-! DS5: len(set(xs)) by deep values. -/
namespace DL
open PySem PySem.Spec PyProof.Rows L2
variable {T : Tb}

def intsD : List D → Option (List Int)
  | [] => some []
  | .int i :: r => (intsD r).map (i :: ·)
  | _ :: _ => none
def tupsD : List D → Option (List (List Int))
  | [] => some []
  | .tuple ds :: r => match intsD ds, tupsD r with
    | some k, some l => some (k :: l)
    | _, _ => none
  | _ :: _ => none
/-- each once -/
def dd : List (List Int) → List (List Int)
  | [] => []
  | k :: r => if k ∈ r then dd r else k :: dd r
theorem dd_mem {x : List Int} : ∀ {l : List (List Int)}, x ∈ dd l ↔ x ∈ l
  | [] => Iff.rfl
  | k :: r => by
    unfold dd
    by_cases h : k ∈ r
    · rw [if_pos h, dd_mem, List.mem_cons]
      exact ⟨.inr, fun z => z.elim (fun e => e ▸ h) id⟩
    · rw [if_neg h, List.mem_cons, List.mem_cons, dd_mem]
theorem dd_nodup : ∀ l : List (List Int), (dd l).Nodup
  | [] => List.nodup_nil
  | k :: r => by
    unfold dd
    by_cases h : k ∈ r
    · rw [if_pos h]; exact dd_nodup r
    · rw [if_neg h]; exact List.nodup_cons.mpr ⟨fun z => h (dd_mem.mp z), dd_nodup r⟩
theorem dd_of {l m : List (List Int)} (h : m.Nodup) (e : ∀ x, x ∈ m ↔ x ∈ l) : m.length = (dd l).length :=
  ((List.perm_ext_iff_of_nodup h (dd_nodup l)).mpr fun x => (e x).trans dd_mem.symm).length_eq
def gLenSet : D → Option Val := fun d => match d with
  | .list xs => match tupsD xs with
    | some ks => if ks.length < 300 then some (.fz (.int (dd ks).length)) else none
    | none => none
  | _ => none
theorem ints_at {K : PySem.W.Frag} {H : Hp} : ∀ {vs : List V} {ds : List D} {k : List Int}, DrA K H vs ds → intsD ds = some k → vs = k.map V.int
  | _, _, _, .nil, h => by cases h; rfl
  | _, _, k, .cons (v := v) (d := d) h r, e => by
    cases h with
    | int i =>
      unfold intsD at e
      obtain ⟨l, e1, e2⟩ := Option.map_eq_some_iff.mp e
      rw [← e2, ints_at r e1]
      rfl
    | _ => cases e
theorem tups_at {K : PySem.W.Frag} {H : Hp} : ∀ {vs : List V} {ds : List D} {l : List (List Int)}, DrA K H vs ds → tupsD ds = some l → ∃ ks : List (Addr × List Int), vs = ks.map (fun p => V.ref p.1) ∧ ks.map (·.2) = l ∧ ∀ p ∈ ks, SqT K H p.1 (p.2.map V.int)
  | _, _, _, .nil, h => by cases h; exact ⟨[], rfl, rfl, by simp⟩
  | _, _, l, .cons (v := v) (d := d) (ds := dr) h r, e => by
    cases h with
    | tup h1 h2 =>
      rename_i a xs es
      unfold tupsD at e
      cases q1 : intsD es with
      | none => simp only [q1] at e; cases e
      | some k =>
        cases q2 : tupsD dr with
        | none => simp only [q1, q2] at e; cases e
        | some m =>
          simp only [q1, q2] at e
          cases e
          obtain ⟨ks, r1, r2, r3⟩ := tups_at r q2
          rw [ints_at h2 q1] at h1
          refine ⟨(a, k) :: ks, by rw [r1]; rfl, by rw [List.map_cons, r2], fun p hp => ?_⟩
          rcases List.mem_cons.mp hp with z | z
          · rw [z]; exact h1
          · exact r3 p z
    | _ => cases e
def rLS (K : PySem.W.Frag) : V → Hp → VK → Prop := fun v H Q => ∃ (l : Addr) (ks : List (Addr × List Int)), v = .ref l ∧ SqL K H l (ks.map fun p => V.ref p.1) ∧ (∀ p ∈ ks, SqT K H p.1 (p.2.map V.int)) ∧ ks.length < 300 ∧ Q (.int (dd (ks.map (·.2))).length) H
theorem op_gLenSet {K : PySem.W.Frag} {L : Nat} : Op1 T K L (rLS K) gLenSet := by
  intro s x d z Q E rx hz q
  cases rx <;> try (cases hz; done)
  rename_i a xs ds h1 h2
  unfold gLenSet at hz
  dsimp only at hz
  cases ht : tupsD ds with
  | none => simp only [ht] at hz; cases hz
  | some l =>
    simp only [ht] at hz
    by_cases hc : l.length < 300
    · rw [if_pos hc] at hz
      cases hz
      obtain ⟨ks, e1, e2, e3⟩ := tups_at h2 ht
      subst e1
      refine ⟨a, ks, rfl, SqL.of h1, fun p hp => sameT E.sub (e3 p hp), by rw [← e2, List.length_map] at hc; exact hc, ?_⟩
      rw [e2]
      exact q _ _ _ E Ext.refl (.int _)
    · rw [if_neg hc] at hz; cases hz
theorem de_lenSet {X : Cx} {c : Cc} {a : Expr} {o : Opd} {p p2 q pos : Pos} (hK : c.K = X.K) (hc : X.calm = true) (hu : X.A.units + 64 < cLine) (hg : Gl X "len") (hm : X.mg "len" = none) (hg2 : Gl X "set") (hm2 : X.mg "set" = none) (ha : DO X c a o)
    (na : starEach [a] X.env = [(false, eval a X.env)]) : DE X c (.Call (.Name "len" p) [.Call (.Name "set" p2) [a] [] q] [] pos) (mOp1 gLenSet o) := by
  have core : PE X (.Call (.Name "len" p) [.Call (.Name "set" p2) [a] [] q] [] pos) (fun σ H Q => tOpd c o σ H fun x H1 => rLS X.K x H1 Q) := by
    refine ⟨fun pins s σ H Q I h => ?_⟩
    refine Call_ (ld_blt I hg hm PySem.boot_len ?_)
    refine PyProof.Rows.callWith_builtin1 (PyProof.Rows.args_cons ?_ rfl) rfl rfl
    refine Call_ (ld_blt I hg2 hm2 PyProof.Rows.boot_set ?_)
    refine PyProof.Rows.callWith_type1 (PyProof.Rows.args_cons (thn (ha.run pins s σ H _ I h) fun v s1 ⟨x, H1, I1, r1, q1⟩ => PyProof.Rows.args_nil ?_) na) na rfl
    obtain ⟨l, ks, rfl, hq, ht, few, q1⟩ := q1
    cases r1
    obtain ⟨its, rv, pl, hz⟩ := I1.list hq
    refine make_set (P := X.prog) (w := X.w) ks (I1.ok.hd hc) pl.isList (by simpa using refs_of_vals rv) (fun p hp => I1.isT (ht p hp)) few (by omega) fun s2 made => ?_
    obtain ⟨h', tk, L, es, ep, t, rfl, R, g, kp⟩ := made
    refine PyProof.Rows.args_nil ?_
    have I2 : Inv X pins σ H1 { s1 with heap := h', toks := tk } := I1.kept kp
    obtain ⟨ob, ho, hex, hd⟩ := R.obj
    have n1 := rows_len R.ents
    have n2 : L.length = (dd (ks.map (·.2))).length := by
      rw [← List.length_map (f := (·.2)) (as := L)]
      refine dd_of R.once fun x => ⟨fun hx => ?_, fun hx => ?_⟩
      · obtain ⟨p, hp, rfl⟩ := List.mem_map.mp hx
        exact List.mem_map.mpr ⟨p, List.mem_of_mem_take (g.sub p hp), rfl⟩
      · obtain ⟨p, hp, rfl⟩ := List.mem_map.mp hx
        exact g.all p (by rw [List.take_length]; exact hp)
    have lt : es.size < 300 := by have := g.len; omega
    have ft : t.fits es.size = true := SetOfT.fit (s := { s1 with heap := h', toks := tk }) R
    refine call_len_set ho hex hd ft (by omega) ⟨.int es.size, H1, I2.tok _, ⟨_, rfl⟩, ?_⟩
    rw [n1, n2]
    exact q1
  exact peImp core fun σ H Q w => rd_op1 (r := rLS X.K) (by rw [← hK]; exact op_gLenSet) w
/-! ### a tuple times an int -/
theorem tup_mul_same (l : Addr) (items : Array Value) (n : Nat) (dd : Option Addr) (sl : Array (Option Value)) (x : Int) (u : Tok) (c0 : (decide (x < -(2 ^ 63)) || decide (x ≥ 2 ^ 63)) = false) (c1 : (items.isEmpty || x == 1) = true) :
    Meets (Builtin.«tuple.__mul__» ⟨[.ref l, .int x u], []⟩) (fun _ R s => s.heap.get? l = some { cls := .type "tuple", dict := dd, data := .seq items n, slots := sl } ∧ R (.ok (.ret (.ref l))) s) :=
  .of_wp fun prog w A R s h => by
    obtain ⟨hp, g, d, tk, os⟩ := s
    obtain ⟨hl, h⟩ := h
    have f1 := AutoSeq1.idx_int
    wp_walk using wpAny_loadPart' hl
    refine wpAny_ite_false (decide_eq_false (by rw [c0]; exact Bool.false_ne_true)) ?_
    wp_walk using wpAny_loadPart' hl
    exact ⟨_, rfl, h⟩
def rRep1 (K : PySem.W.Frag) : R2 := fun x y H Q => ∃ l k xs, x = .ref l ∧ y = .int k ∧ SqT K H l xs ∧ (xs = [] ∨ k = 1) ∧ -(2 ^ 63) ≤ k ∧ k < 2 ^ 63 ∧ Q (.ref l) H
theorem op_rep1 {X : Cx} : OpR X (binaryOp .Mult) (rRep1 X.K) := by
  intro pins s σ H x y v u Q I rx ry h
  obtain ⟨l, k, xs, rfl, rfl, hT, hne, h1, h2, q⟩ := h
  cases rx
  obtain ⟨t, rfl⟩ := ry
  obtain ⟨its, r, ⟨⟨cls, dd, data, sl⟩, ho, hc, n, hd⟩, hs⟩ := I.tuple hT
  simp only at hc hd
  subst hc hd
  have c0 : (decide (k < -(2 ^ 63)) || decide (k ≥ 2 ^ 63)) = false := Bool.or_eq_false_iff.mpr ⟨decide_eq_false (by omega), decide_eq_false (by omega)⟩
  have c1 : (its.toArray.isEmpty || k == 1) = true := by
    rcases hne with z | z
    · subst z
      cases r
      rfl
    · subst z
      exact Bool.or_true _
  refine wpAny_binaryOp_repeat_ref (T := "tuple") (U := "int") (by decide) ⟨_, ho, rfl⟩ (fun s' => typeIs_int s' k t) noFill_tuple_mul F.fills_int_mul F.slot_int_rmul repeat_tuple F.slot_int_index.lookup ?_
  refine call_meets F.slot_int_rmul (typeIs_int s k t) F.entry_int_rmul (F.args_int_rmul_2 _ _) (int_rmul_tuple k t l its.toArray n dd sl) ⟨ho, rfl, ⟨_, ho, rfl⟩, ?_⟩
  exact call_meets F.slot_tuple_mul ⟨_, ho, rfl⟩ F.entry_tuple_mul (F.args_tuple_mul_2 _ _) (tup_mul_same l its.toArray n dd sl k t c0 c1) ⟨ho, ⟨.ref l, H, I, rfl, q⟩⟩
def gRepT : D → D → Option Val := fun d e => match d, e with
  | .tuple a, .int k => if a.isEmpty || k == 1 then (if -(2 ^ 63) ≤ k ∧ k < 2 ^ 63 then some (.fz (.tuple a)) else none) else if 2 ≤ k ∧ k ≤ 1000 ∧ a.length ≤ 1000 then some (.fz (.tuple (List.replicate k.toNat a).flatten)) else none
  | _, _ => none
theorem op_gRepT {K : PySem.W.Frag} {L : Nat} : OpD T K L (fun x y H Q => rRep1 K x y H Q ∨ rRepT K x y H Q) gRepT := by
  intro s x y d e z Q E rx ry hz q
  cases rx <;> cases ry <;> try (cases hz; done)
  rename_i a xs ds h1 h2 k
  unfold gRepT at hz
  dsimp only at hz
  by_cases hc : (ds.isEmpty || k == 1) = true
  · rw [if_pos hc] at hz
    by_cases hk : -(2 ^ 63) ≤ k ∧ k < 2 ^ 63
    · rw [if_pos hk] at hz
      cases hz
      refine .inl ⟨a, k, xs, rfl, rfl, sameT E.sub h1, ?_, hk.1, hk.2, q _ _ _ E Ext.refl (.tup h1 h2)⟩
      rcases (Bool.or_eq_true _ _).mp hc with z | z
      · left
        cases h2 with
        | nil => rfl
        | cons _ _ => cases z
      · exact .inr (eq_of_beq z)
    · rw [if_neg hk] at hz; cases hz
  · rw [if_neg hc] at hz
    by_cases hk : 2 ≤ k ∧ k ≤ 1000 ∧ ds.length ≤ 1000
    · rw [if_pos hk] at hz
      cases hz
      refine .inr ⟨a, k, xs, rfl, rfl, sameT E.sub h1, ?_, hk.1, hk.2.1, by rw [DrA.len h2]; exact hk.2.2, fun p hp => ?_⟩
      · intro z
        subst z
        cases h2
        exact hc rfl
      · obtain ⟨E2, X2, sm⟩ := E.newFz (L := L) (.tup (List.replicate k.toNat xs).flatten) hp
        exact q _ _ _ E2 X2 (.tup (SqT.of upd_same) (DrA.same sm (DrA.rep h2 _)))
    · rw [if_neg hk] at hz; cases hz
end DL

/-! DX0: a lambda that is called by the def that got it, where no guard stands. -/
namespace DL
open PySem PySem.Spec PyProof.Rows L2 LamX

/-- the frame of a def that is handed a lambda in the context X -/
abbrev zCx (X : Cx) (Ng : List Str) (qg : Str) (sg : Scope) (g : Addr) (cdg : Value) (s : Shared) (H : Hp) : Cx := cxOf C8.CX0 X.prog X.w X.K X.mg X.base Ng qg sg g cdg X.A X.stack s H C8.E0
/-- a lambda as it lies -/
structure LamAt (X : Cx) (params : Arguments) (body : Expr) (scope : Scope) (f c' : Addr) (pm ctv : Value) (H : Hp) (s : Shared) : Prop where
  obj : s.heap.get? f = some (PySem.W.kla_obj "<lambda>" (X.env.qual ++ "<lambda>") params body scope (cloFrom X.env.cells scope.names []) pm c' ctv)
  new : H f = none
  nfr : f ∉ frs X.stack
section
variable {X : Cx} {pins : List (Addr × Obj)} {σ : L2.St} {H : Hp} {s : Shared}
theorem act_ok {Ng : List Str} {qg a : Str} {sg : Scope} {g f c' : Addr} {cdg pm ctv : Value} {params : Arguments} {body : Expr} {scope : Scope} {k i : Nat} {pn : List (Addr × Obj)} {xe : Value → Shared → Prop} {W : WX} {E : XK} {tb : TE} {p1 p2 : Pos}
    (I : Inv X pins σ H s) (L : LamS X.env.scope scope) (la : LamAt X params body scope f c' pm ctv H s) (gu : X.A.guards = some [])
    (hbind : bindArgs (PySem.W.kla_fn "<lambda>" (X.env.qual ++ "<lambda>") params body scope (cloFrom X.env.cells scope.names []) pm (.ref c') ctv) ⟨[], []⟩ = pure [])
    (tk : Takes ((zCx X Ng qg sg g cdg s H).tr pn xe) W) (hr : Room (k + 1) (X.A.deeper (envOfC qg sg s.heap.objs.size g cdg)))
    (hbody : ∀ (A : Around) (outer : List Env) (t : Shared) (G : Hp), A.guards = some [] → Room k (A.deeper (lamEnv X scope t.heap.objs.size f c')) → PE (lamCx X A outer t G E scope f c') body tb)
    (hN : Ng[i]? = some a) (hv : Vis sg a) (hd : (a == ("__debug__" : Str)) = false := by decide) (hcd : (a == ("__classdict__" : Str)) = false := by decide) :
    PE ((zCx X Ng qg sg g cdg s H).tr pn xe) (.Call (.Name a p1) [] [] p2) (fun σZ HZ Q => (∀ cls d H', E cls d H' → W cls d σZ H') ∧ σZ[i]? = some (some (.ref f)) ∧ HZ c' = some (CodeO c' (X.env.qual ++ "<lambda>")) ∧ tb σ HZ Q) := by
  constructor
  intro pz sz σz Hz Q Iz w'
  obtain ⟨hW, w⟩ := w'
  have nm := (pe_var (pos := p1) (i := i) hN hv hd hcd).run pz sz σz Hz (fun v G => v = .ref f ∧ G = Hz) Iz ⟨.ref f, w.1, rfl, rfl⟩
  refine wpAny_Call_Name_kw (thn nm ?_)
  rintro u t ⟨v, G, J, ru, ev, eG⟩
  subst ev eG
  obtain rfl : u = Value.ref f := ru
  -- the lambda's object stands
  have ob := J.base.keep f _ la.obj la.new la.nfr (fun z => nomatch (show f ∈ ([] : List Addr) from z))
  obtain ⟨cobj, _, _⟩ := J.hok c' _ w.2.1
  obtain ⟨oc, vs, tq, k1, k2, k3⟩ := cobj
  refine PySem.W.callWith_F0 ⟨_, _, _, _, ob⟩ (wpAny_call (codeAny_mono (R := CR (L2.CX X.prog X.w) (envOfC qg sg s.heap.objs.size g cdg :: X.stack) X.prog X.w G t Q E) ?_ ?_))
  · refine PySem.W.kla_callFunE hr.depth ob rfl L.co L.gen rfl ⟨c', oc, vs, tq, rfl, k1, k2, k3⟩ ?_
    refine wpAny_of_eq (a := []) hbind (wpAny_newFunctionEnv (fun y hy => (L.own y hy).2) (fun y hy => nomatch hy) ?_ L.kind)
    intro hp2 nsp sb
    have kp : ∀ b o, t.heap.get? b = some o → hp2.get? b = some o := fun b o e => sb.extBut b o (Nat.ne_of_lt (Heap.lt_size e)) (Heap.get?_push_of_some _ e)
    refine ⟨J.nolimit.fresh _ sb, PySem.W.kla_codeExpr (wpAny_mono (Q := EP (lamCx X (X.A.deeper (envOfC qg sg s.heap.objs.size g cdg)) (envOfC qg sg s.heap.objs.size g cdg :: X.stack) t G E scope f c') [] σ Q) ?_ ?_ fun _ _ z => z)⟩
    · have st := lam_start2 (A := X.A.deeper (envOfC qg sg s.heap.objs.size g cdg)) (outer := envOfC qg sg s.heap.objs.size g cdg :: X.stack) (E := E) (f := f) (c' := c') (tk := t.toks + ([] : List (Str × Value)).length) I L J.env0 hr.hd J.base nsp kp
      exact (hbody (X.A.deeper (envOfC qg sg s.heap.objs.size g cdg)) (envOfC qg sg s.heap.objs.size g cdg :: X.stack) t G gu (hr.deeper _)).run [] _ _ G Q st w.2.2
    · rintro v2 s2 ⟨w2, H2, J2, r2, q2⟩
      exact ⟨w2, H2, J2.os, J2.bare, J2.base, J2.hok, r2, q2⟩
  · intro r s2 hq
    match r, hq with
    | .error e, hq => exact tk e s2 (XE.of_call J (fun cls d H' h => hW cls d H' h) hq)
    | .ok (.ret u2), hq => exact J.after hq
    | .ok .next, hq => exact hq.elim
    | .ok .brk, hq => exact hq.elim
    | .ok .cont, hq => exact hq.elim
end
/-- what the def that got the lambda does, from its frame's start on: tl is what the lambda's call does -/
def GivesG (X : Cx) (Ng : List Str) (x : Str) (sg : Scope) (g : Addr) (cdg : Value) (bg : List Stmt) (a : Str) (q : Str) (TT : (XK → Hp → VK → Prop) → Hp → VK → Prop) : Prop :=
  ∀ (f c' : Addr) (s : Shared) (H : Hp) (Q : VK) (tl : XK → Hp → VK → Prop),
    (∀ (W : WX) (pn : List (Addr × Obj)) (xe : Value → Shared → Prop) (E : XK) (p1 p2 : Pos), Takes ((zCx X Ng x sg g cdg s H).tr pn xe) W →
      PE ((zCx X Ng x sg g cdg s H).tr pn xe) (.Call (.Name a p1) [] [] p2) (fun σZ HZ Q => (∀ cls d H', E cls d H' → W cls d σZ H') ∧ σZ[0]? = some (some (.ref f)) ∧ HZ c' = some (CodeO c' q) ∧ tl E HZ Q)) →
    H c' = some (CodeO c' q) → TT tl H Q → Room 0 (X.A.deeper (envOfC x sg s.heap.objs.size g cdg)) →
    ∃ t, PSs (zCx X Ng x sg g cdg s H) bg t ∧ t { nx := fun _ H' => Q .non H', rt := Q } (L2.start Ng [.ref f]) H
section
variable {X : Cx}
/-- x(lambda: body) -/
theorem lam_call {T : List (Addr × Str)} {TT : (XK → Hp → VK → Prop) → Hp → VK → Prop} {x a : Str} {g c P : Addr} {k : Nat} {pg : Arguments} {bg : List Stmt} {sg : Scope} {dV kV doc pm cdv ct oc : Value} {an od : Option Addr} {osl : Array (Option Value)} {Ng : List Str}
    {params : Arguments} {body : Expr} {scope : Scope} {t : XK → TE} {p lpos pos : Pos} (gu : X.A.guards = some []) (hg : Gl X x) (hm : X.mg x = some (.ref g)) (hk : PySem.W.keepIn X.K (.ref g) = true)
    (lk : X.K.lookup g = some ⟨oc, od, .func (PySem.W.fnOf x x pg bg sg dV kV doc pm an cdv ct), osl⟩) (hcg : PySem.W.codeIn X.K cdv x = true) (hb : L2.Binds X.K (PySem.W.fnOf x x pg bg sg dV kV doc pm an cdv ct) [a] []) (Sg : FnScope Ng [a] sg) (hNg : Ng[0]? = some a) (hva : Vis sg a)
    (hG : GivesG X Ng x sg g cdv bg a (X.env.qual ++ "<lambda>") TT)
    (TB : TabB X.base X.mg c P) (hcode : X.env.code = .ref c) (hmT : (P, X.env.qual ++ "<lambda>") ∈ T) (hu : ∀ p ∈ T, p.1 = P → p.2 = X.env.qual ++ "<lambda>") (hr : Room (k + 2) X.A) (L : LamS X.env.scope scope) (hdef : defaultsOf params X.env = ([], []))
    (hbind : ∀ (q : Str) (cl : List (Str × Addr)) (pm cv ctv : Value), bindArgs (PySem.W.kla_fn "<lambda>" q params body scope cl pm cv ctv) ⟨[], []⟩ = pure [])
    (hbody : ∀ (A : Around) (outer : List Env) (s : Shared) (H : Hp) (E : XK) (f c' : Addr), A.guards = some [] → Room k (A.deeper (lamEnv X scope s.heap.objs.size f c')) → PE (lamCx X A outer s H E scope f c') body (t E))
    (hdb : (x == ("__debug__" : Str)) = false) (hd : (a == ("__debug__" : Str)) = false) (hcd : (a == ("__classdict__" : Str)) = false) :
    PE X (.Call (.Name x p) [.Lambda params body scope lpos] [] pos) (tLam T TT t) := by
  constructor
  rintro pins s σ H Q I ⟨hT, h⟩
  refine wpAny_Call_Name_kw (ld_glob I hg hm (PySem.W.callWith_K (h₀ := X.base) I.ok.mod.kin hk (Calls.spliced_cons (rest := backTo pos (starEach [] X.env)) (lam_make2 I TB hcode hmT hu hT hdef (L.has I.ok) ?_)) rfl rfl) hdb)
  intro f c' pm' ctv H1 s' I1 eN T1 ob nw nf hco
  refine Calls.spliced_nil ⟨I1.kIn, wpAny_call (codeAny_mono (R := CR C8.CX0 X.stack X.prog X.w H1 s' Q C8.E0) ?_ ?_)⟩
  · refine run_ofS (N := Ng) (ps := [a]) (us := [.ref f]) (vs := [.ref f]) lk hcg Sg hr I1.env0 (hb s' [.ref f] I1.kIn rfl) (.cons rfl .nil) rfl ?_
    intro hr'
    exact hG f c' s' H1 Q (fun E H' Q' => t E σ H' Q') (fun W pn xe E p1 p2 tk => act_ok (i := 0) I1 L ⟨ob, nw, nf⟩ gu (hbind _ _ _ _ _) tk hr' (fun A outer s H gA hr2 => hbody A outer s H E f c' gA hr2) hNg hva hd hcd) hco (h H1 eN T1) (hr'.mono (Nat.zero_le _))
  · intro r s2 hq
    match r, hq with
    | .error e, hq => exact (show False from hq).elim
    | .ok (.ret u2), hq => exact I1.after hq
    | .ok .next, hq => exact hq.elim
    | .ok .brk, hq => exact hq.elim
    | .ok .cont, hq => exact hq.elim
end
end DL

/-! DX1: a def that calls what it got in a try and tells the exception. -/
namespace DL
open PySem PySem.Spec PyProof.Rows L2 LamX

def isStar : Expr → Bool
  | .Starred _ _ => true
  | _ => false
theorem star_no {e : Expr} {r : List Expr} {env : PySem.Env} (h : isStar e = false) : starEach (e :: r) env = (false, eval e env) :: starEach r env := by
  cases e <;> first | rfl | (cases h; done)
/-- an expression of an except suite over the exception e: a constant, e.f, repr(e.f), isinstance(e, y) -/
inductive HX where
  | c (d : D)
  | fld (f : Str)
  | rep (f : Str)
  | isG (y : Str)
  | isT (t : String)
def scV : D → Option V
  | .none => some .non
  | .bool b => some (.bl b)
  | .int i => some (.int i)
  | .str x => some (.str x)
  | _ => none
theorem scV_dr {K : PySem.W.Frag} {H : Hp} {d : D} {v : V} (h : scV d = some v) : Dr K H v d := by
  cases d with
  | none => cases h; exact .non
  | bool b => cases h; exact .bl b
  | int i => cases h; exact .int i
  | str x => cases h; exact .str x
  | _ => cases h
/-- what a class of exceptions says of its instances -/
structure XcOk (K : PySem.W.Frag) (C : Addr) : Prop where
  xf : XfC K C
  cl : (PySem.W.clsIn K C).isSome = true
  ha : PySem.W.findIn K (.ref C) "__class__" = some (some (.builtin "object.__class__"))
  hn : PySem.W.specialIn K (.builtin "object.__class__") "__get__" = some (some (.builtin "getset_descriptor.__get__"))
  ht : PySem.W.takesIn K (.builtin "object.__class__") = some true
  hm : PySem.W.mroIn K C (.type "object") = some true
def xcB (K : PySem.W.Frag) (C : Addr) : Bool := xfB K C && ((PySem.W.clsIn K C).isSome && (decide (PySem.W.findIn K (.ref C) "__class__" = some (some (.builtin "object.__class__"))) && (decide (PySem.W.specialIn K (.builtin "object.__class__") "__get__" = some (some (.builtin "getset_descriptor.__get__"))) &&
  (decide (PySem.W.takesIn K (.builtin "object.__class__") = some true) && decide (PySem.W.mroIn K C (.type "object") = some true)))))
theorem xcB_ok {K : PySem.W.Frag} {C : Addr} (h : xcB K C = true) : XcOk K C := by
  unfold xcB at h
  simp only [Bool.and_eq_true, decide_eq_true_eq] at h
  obtain ⟨h1, h2, h3, h4, h5, h6⟩ := h
  exact ⟨xfB_ok h1, h2, h3, h4, h5, h6⟩
/-- the value of such an expression, e of the class at C with the fields fs -/
inductive HV (K : PySem.W.Frag) (mg : Str → Option Value) (H : Hp) (C : Addr) (fs : List (Str × V)) : HX → V → Prop
  | c {d : D} {v : V} : scV d = some v → HV K mg H C fs (.c d) v
  | fld {f : Str} {v : V} : XcOk K C → PySem.W.findIn K (.ref C) f = some none → fs.lookup f = some v → HV K mg H C fs (.fld f) v
  | rep {f : Str} {v : V} {d : D} : XcOk K C → PySem.W.findIn K (.ref C) f = some none → fs.lookup f = some v → Dp K H v d → d.plain = true → d.showable = true → d.shown.length ≤ sizeLine → d.depth ≤ 64 → HV K mg H C fs (.rep f) (.str d.shown)
  | isG {y : Str} {Y : Addr} {b : Bool} : XcOk K C → mg y = some (.ref Y) → PySem.W.kitOne K (.ref C) (.ref Y) = some b → HV K mg H C fs (.isG y) (.bl b)
  | isT {t : String} {b : Bool} : XcOk K C → PySem.W.kitOne K (.ref C) (.type t) = some b → HV K mg H C fs (.isT t) (.bl b)
def HPre (i : Nat) (a : Addr) (cls : Value) (d : Option Addr) (C dd : Addr) (fs : List (Str × V)) (σ : L2.St) (H : Hp) : Prop := σ[i]? = some (some (.ref a)) ∧ cls = .ref C ∧ d = some dd ∧ H dd = some (.xd fs)
def tHX (K : PySem.W.Frag) (mg : Str → Option Value) (i : Nat) (a : Addr) (cls : Value) (d : Option Addr) (hx : HX) : TE := fun σ H Q => ∃ C dd fs v, HPre i a cls d C dd fs σ H ∧ HV K mg H C fs hx v ∧ Q v H
def tHXs (K : PySem.W.Frag) (mg : Str → Option Value) (i : Nat) (a : Addr) (cls : Value) (d : Option Addr) (l : List HX) : TA := fun σ H Q => ∃ C dd fs vs, HPre i a cls d C dd fs σ H ∧ Paired (HV K mg H C fs) l vs ∧ Q vs H
/-- isinstance(e, y) -/
def rIsX (K : PySem.W.Frag) (a : Addr) (cls : Value) (d : Option Addr) : List V → Hp → VK → Prop := fun xs H Q => ∃ (C dd : Addr) (fs : List (Str × V)) (y : V) (cv : Value) (b : Bool), xs = [.ref a, y] ∧ cls = .ref C ∧ d = some dd ∧ H dd = some (.xd fs) ∧ XcOk K C ∧
  (∀ u, RelV y u → u = cv) ∧ PySem.W.kitOne K (.ref C) cv = some b ∧ Q (.bl b) H
section
variable {Z : Cx} {a : Addr} {oe : Obj} {cls : Value} {d : Option Addr} {pn : List (Addr × Obj)} {i : Nat} {n : Str}
theorem call_isX (hz : Zc cls d oe) (hf : ∃ vs, oe.data = .fields vs) : CallR (Z.suite a ((a, oe) :: pn)) (.builtin "isinstance") (rIsX Z.K a cls d) := by
  intro pins s σ H xs us Q I r h
  obtain ⟨C, dd, fs, y, cv, b, rfl, ec, ed, hdd, T, hy, hk, q⟩ := h
  subst ec ed
  obtain ⟨u1, u2, rfl, r1, r2⟩ : ∃ u1 u2, us = [u1, u2] ∧ RelV (.ref a) u1 ∧ RelV y u2 := by
    cases r with
    | cons h1 r =>
      cases r with
      | cons h2 r => cases r; exact ⟨_, _, rfl, h1, h2⟩
  obtain rfl : u1 = Value.ref a := r1
  obtain rfl := hy u2 r2
  obtain ⟨at_, _⟩ := I.pin (a, oe) (List.mem_append.mpr (.inl List.mem_cons_self))
  obtain ⟨fv, hfv⟩ := hf
  obtain ⟨mA, hns, _⟩ : ObjOk Z.prog Z.w H s.heap dd (.xd fs) := I.hok dd _ hdd
  obtain ⟨od, ho, _⟩ := lookIn_ns hns
  have J : PySem.W.InstAt s.heap a oe C (some od) := ⟨at_, hz.1, by unfold PySem.W.notCls; rw [hfv] <;> rfl, by rw [hz.2]; exact ho⟩
  exact PySem.W.kia_one (PySem.W.kitx_exc T.cl T.xf.ga T.xf.gg T.xf.exC T.ha T.hn T.ht T.hm) I.kIn J hk (fun z => nomatch z) fun tk => ⟨.bl b, H, I.kept (t' := tk) fun _ _ z => z, rfl, q⟩
/-- the built-in classes that are asked for -/
def exB (y : Str) : Option String := if y = ("ValueError" : Str) then some "ValueError" else if y = ("LookupError" : Str) then some "LookupError" else if y = ("RuntimeError" : Str) then some "RuntimeError" else if y = ("ArithmeticError" : Str) then some "ArithmeticError" else none
theorem exB_ok {y : Str} {t : String} (h : exB y = some t) : bootBuiltins y = some (.type t) ∧ (y == ("__debug__" : Str)) = false ∧ y ≠ ("__name__" : Str) := by
  unfold exB at h
  split at h
  · rename_i e; cases h; subst e; exact ⟨by decide +kernel, by decide, by decide⟩
  · split at h
    · rename_i e; cases h; subst e; exact ⟨by decide +kernel, by decide, by decide⟩
    · split at h
      · rename_i e; cases h; subst e; exact ⟨by decide +kernel, by decide, by decide⟩
      · split at h
        · rename_i e; cases h; subst e; exact ⟨by decide +kernel, by decide, by decide⟩
        · cases h
/-- such an expression read off the text: sg the def's scope, fr names that the module leaves built-in -/
def cHX (sg : Scope) (fr : List Str) (n : Str) : Expr → Option HX
  | .Constant .none _ _ => some (.c .none)
  | .Constant (.bool b) _ _ => some (.c (.bool b))
  | .Constant (.int k) _ _ => some (.c (.int k))
  | .Constant (.str x) _ _ => some (.c (.str x))
  | .Attribute (.Name y _) f _ => if y = n then some (.fld f) else none
  | .Call (.Name g _) [.Attribute (.Name y _) f _] [] _ => if y = n ∧ g = ("repr" : Str) ∧ g ∈ fr ∧ sg.names.lookup g = some .globalImplicit then some (.rep f) else none
  | .Call (.Name g _) [.Name y _, .Name t _] [] _ => if y = n ∧ g = ("isinstance" : Str) ∧ g ∈ fr ∧ sg.names.lookup g = some .globalImplicit ∧ sg.names.lookup t = some .globalImplicit ∧ (t == ("__debug__" : Str)) = false then
      (match exB t with
      | some b => if t ∈ fr then some (.isT b) else none
      | none => some (.isG t)) else none
  | _ => none
structure HCx (Z : Cx) (sg : Scope) (fr : List Str) (i : Nat) (n : Str) : Prop where
  sc : Z.env.scope = sg
  gu : Z.A.guards = some []
  un : Z.A.units + 68 < cLine
  at_ : Z.N[i]? = some n
  loc : sg.names.lookup n = some .local
  nd : (n == ("__debug__" : Str)) = false
  nc : (n == ("__classdict__" : Str)) = false
  free : ∀ y ∈ fr, Z.mg y = none
theorem hx_ok {sg : Scope} {fr : List Str} (hc : HCx Z sg fr i n) (hz : Zc cls d oe) (hf : ∃ vs, oe.data = .fields vs) {el : Expr} {hx : HX} (h : cHX sg fr n el = some hx) : PE (Z.suite a ((a, oe) :: pn)) el (tHX Z.K Z.mg i a cls d hx) := by
  have gl : ∀ {y : Str}, sg.names.lookup y = some .globalImplicit → Gl (Z.suite a ((a, oe) :: pn)) y := fun {y} e => by
    show Z.env.scope.names.lookup y = _
    rw [hc.sc]; exact e
  have nv : ∀ p, PE (Z.suite a ((a, oe) :: pn)) (.Name n p) (tVar i) := fun p => pe_var hc.at_ (by show Vis Z.env.scope n; rw [hc.sc]; exact .inl hc.loc) hc.nd hc.nc
  have cst : ∀ {e : Expr} {D : D} {v : V}, PE (Z.suite a ((a, oe) :: pn)) e (tC v) → scV D = some v → PE (Z.suite a ((a, oe) :: pn)) e (tHX Z.K Z.mg i a cls d (.c D)) := fun {e D v} p hs => peImp p fun σ H Q q => by
    obtain ⟨C, dd, fs, w, _, hv, q⟩ := q
    cases hv with
    | c h' => rw [hs] at h'; cases h'; exact q
  have fld : ∀ (f : Str) (p q : Pos), PE (Z.suite a ((a, oe) :: pn)) (.Attribute (.Name n p) f q) (fun σ H Q => ∃ C dd fs v, HPre i a cls d C dd fs σ H ∧ XcOk Z.K C ∧ PySem.W.findIn Z.K (.ref C) f = some none ∧ fs.lookup f = some v ∧ Q v H) := fun f p q =>
    ⟨fun pins s σ H Q I w => by
      obtain ⟨C, dd, fs, v, pr, T, hno, hl, q'⟩ := w
      exact (pe_xf (X := Z) (a := a) (C := C) (oe := oe) (cls := cls) (d := d) (pn := pn) (n := f) (pos := q) T.xf hno hz hf (nv p)).run pins s σ H Q I ⟨_, pr.1, rfl, pr.2.1, dd, fs, v, pr.2.2.1, pr.2.2.2, hl, q'⟩⟩
  unfold cHX at h
  split at h
  · cases h; exact cst pe_non rfl
  · cases h; exact cst pe_bl rfl
  · cases h; exact cst pe_int rfl
  · cases h; exact cst pe_str rfl
  · rename_i y p f q
    by_cases e : y = n
    · rw [if_pos e] at h
      cases h
      subst e
      refine peImp (fld f p q) fun σ H Q w => ?_
      obtain ⟨C, dd, fs, v, pr, hv, q'⟩ := w
      cases hv with
      | fld T hno hl => exact ⟨C, dd, fs, v, pr, T, hno, hl, q'⟩
    · rw [if_neg e] at h; cases h
  · rename_i g pg y p f q pos
    by_cases e : y = n ∧ g = ("repr" : Str) ∧ g ∈ fr ∧ sg.names.lookup g = some .globalImplicit
    · rw [if_pos e] at h
      cases h
      obtain ⟨e1, e2, e3, e4⟩ := e
      subst e1 e2
      refine peImp (pe_callB (call_repr hc.gu hc.un) (gl e4) (hc.free _ e3) (by decide +kernel) (pa_cons (fld f p q) pa_nil)) fun σ H Q w => ?_
      obtain ⟨C, dd, fs, v, pr, hv, q'⟩ := w
      cases hv with
      | rep T hno hl h1 h2 h3 h4 h5 => exact ⟨C, dd, fs, _, pr, T, hno, hl, _, _, rfl, h1, h2, h3, h4, h5, q'⟩
    · rw [if_neg e] at h; cases h
  · rename_i g pg y p t pt pos
    by_cases e : y = n ∧ g = ("isinstance" : Str) ∧ g ∈ fr ∧ sg.names.lookup g = some .globalImplicit ∧ sg.names.lookup t = some .globalImplicit ∧ (t == ("__debug__" : Str)) = false
    · rw [if_pos e] at h
      obtain ⟨e1, e2, e3, e4, e5, e6⟩ := e
      subst e1 e2
      cases hb : exB t with
      | none =>
        rw [hb] at h
        cases h
        refine ⟨fun pins s σ H Q I w => ?_⟩
        obtain ⟨C, dd, fs, v, pr, hv, q'⟩ := w
        cases hv with
        | @isG _ Y b T hm hk =>
          exact (pe_callB (call_isX (Z := Z) hz hf) (gl e4) (hc.free _ e3) (by decide +kernel) (pa_cons (nv p) (pa_cons (pe_glob (v := .ref Y) (gl e5) hm rfl e6) pa_nil))).run pins s σ H Q I ⟨_, pr.1, C, dd, fs, _, .ref Y, b, rfl, pr.2.1, pr.2.2.1, pr.2.2.2, T, fun u hu => hu, hk, q'⟩
      | some tt =>
        rw [hb] at h
        dsimp only at h
        by_cases ht : t ∈ fr
        · rw [if_pos ht] at h
          cases h
          obtain ⟨b1, b2, b3⟩ := exB_ok hb
          refine peImp (pe_callB (call_isX (Z := Z) hz hf) (gl e4) (hc.free _ e3) (by decide +kernel) (pa_cons (nv p) (pa_cons (pe_bltn (v := .ty tt) (gl e5) (hc.free _ ht) b1 rfl b3 b2) pa_nil))) fun σ H Q w => ?_
          obtain ⟨C, dd, fs, v, pr, hv, q'⟩ := w
          cases hv with
          | isT T hk => exact ⟨_, pr.1, C, dd, fs, _, .type tt, _, rfl, pr.2.1, pr.2.2.1, pr.2.2.2, T, fun u hu => hu, hk, q'⟩
        · rw [if_neg ht] at h; cases h
    · rw [if_neg e] at h; cases h
  · cases h
def cHXs (sg : Scope) (fr : List Str) (n : Str) : List Expr → Option (List HX)
  | [] => some []
  | e :: r => if isStar e then none else match cHX sg fr n e, cHXs sg fr n r with
    | some x, some l => some (x :: l)
    | _, _ => none
theorem hxs_ok {sg : Scope} {fr : List Str} (hc : HCx Z sg fr i n) (hz : Zc cls d oe) (hf : ∃ vs, oe.data = .fields vs) : ∀ {es : List Expr} {l : List HX}, cHXs sg fr n es = some l → PA (Z.suite a ((a, oe) :: pn)) es (tHXs Z.K Z.mg i a cls d l)
  | [], l, h => by
    cases h
    refine paImp pa_nil fun σ H Q w => ?_
    obtain ⟨C, dd, fs, vs, pr, hv, q⟩ := w
    cases hv
    exact q
  | e :: r, l, h => by
    unfold cHXs at h
    cases hs : isStar e with
    | true => rw [hs, if_pos rfl] at h; cases h
    | false =>
      rw [hs, if_neg Bool.false_ne_true] at h
      cases h1 : cHX sg fr n e with
      | none => simp only [h1] at h; cases h
      | some x =>
        cases h2 : cHXs sg fr n r with
        | none => simp only [h1, h2] at h; cases h
        | some k =>
          simp only [h1, h2] at h
          cases h
          refine paImp (pa_cons (hx_ok hc hz hf h1) (hxs_ok hc hz hf h2) (star_no hs)) fun σ H Q w => ?_
          obtain ⟨C, dd, fs, vs, pr, hv, q⟩ := w
          cases hv with
          | cons hv1 hv2 => exact ⟨C, dd, fs, _, pr, hv1, C, dd, fs, _, pr, hv2, q⟩
end

/-! ### the def -/
/-- found = None; try: a(); except xc as n: found = (..); return found -/
structure HdP where
  r : Str
  xc : Str
  n : Str
  hx : List HX
def locL (sg : Scope) (x : Str) : Bool := decide (sg.names.lookup x = some .local) && (!(x == ("__debug__" : Str)) && !(x == ("__classdict__" : Str)))
def cHeard (sg : Scope) (fr : List Str) (a : Str) : List Stmt → Option HdP
  | [.Assign [.Name r _] (.Constant .none _ _) _, .Try [.Expr (.Call (.Name a' _) [] [] _) _] [.ExceptHandler (some (.Name xc _)) (some n) [.Assign [.Name r' _] (.Tuple es _ _) _] _] [] [] _, .Return (some (.Name r'' _)) _] =>
    if a' = a ∧ r' = r ∧ r'' = r ∧ [a, r, n].Nodup ∧ locL sg a = true ∧ locL sg r = true ∧ locL sg n = true ∧ sg.names.lookup xc = some .globalImplicit ∧ (xc == ("__debug__" : Str)) = false then (cHXs sg fr n es).map fun l => ⟨r, xc, n, l⟩ else none
  | _ => none
/-- what it does: None behind a call that ends well, the tuple behind an exception of the class at xC -/
def TTh (K : PySem.W.Frag) (mg : Str → Option Value) (xC : Addr) (hx : List HX) : (XK → Hp → VK → Prop) → Hp → VK → Prop := fun tl H Q =>
  tl (fun cls d H' => PySem.W.exmOne K cls (.ref xC) = some true ∧ ∃ C dd fs vs, cls = .ref C ∧ d = some dd ∧ H' dd = some (.xd fs) ∧ Paired (HV K mg H' C fs) hx vs ∧ vs.length ≤ sizeLine ∧ ∀ p, H' p = none → Q (.ref p) (upd H' p (.tup vs))) H (fun _ H' => Q .non H')
theorem locL_ok {sg : Scope} {x : Str} (h : locL sg x = true) : sg.names.lookup x = some .local ∧ (x == ("__debug__" : Str)) = false ∧ (x == ("__classdict__" : Str)) = false := by
  unfold locL at h
  simp only [Bool.and_eq_true, Bool.not_eq_true', decide_eq_true_eq] at h
  exact ⟨h.1, h.2.1, h.2.2⟩
theorem heard_gives {X : Cx} {x a q : Str} {sg : Scope} {g xC : Addr} {cdg : Value} {fr : List Str} {body : List Stmt} {h : HdP} (hc : cHeard sg fr a body = some h) (gu : X.A.guards = some []) (free : ∀ y ∈ fr, X.mg y = none) (hxc : X.mg h.xc = some (.ref xC)) :
    GivesG X [a, h.r, h.n] x sg g cdg body a q (TTh X.K X.mg xC h.hx) := by
  unfold cHeard at hc
  split at hc
  · rename_i r p1 j1 p2 p3 a' p4 p5 p6 xc p7 n r' p8 es k9 p9 p10 p11 p12 r'' p13 p14
    by_cases e : a' = a ∧ r' = r ∧ r'' = r ∧ [a, r, n].Nodup ∧ locL sg a = true ∧ locL sg r = true ∧ locL sg n = true ∧ sg.names.lookup xc = some .globalImplicit ∧ (xc == ("__debug__" : Str)) = false
    · rw [if_pos e] at hc
      obtain ⟨e1, e2, e3, nd, la, lr, ln, lx, dx⟩ := e
      subst e1 e2 e3
      cases hl : cHXs sg fr n es with
      | none => rw [hl] at hc; cases hc
      | some l =>
        rw [hl] at hc
        cases hc
        obtain ⟨la1, la2, la3⟩ := locL_ok la
        obtain ⟨lr1, lr2, lr3⟩ := locL_ok lr
        obtain ⟨ln1, ln2, ln3⟩ := locL_ok ln
        intro f c' s H Q tl act hco w room
        have Hcx : HCx (zCx X [a', r'', n] x sg g cdg s H) sg fr 2 n := ⟨rfl, gu, by have := room.un; show (X.A.deeper (envOfC x sg s.heap.objs.size g cdg)).units + 68 < cLine; omega, rfl, ln1, ln2, ln3, free⟩
        refine ⟨_, pss_cons (ps_set (i := 1) nd rfl (.inl lr1) pe_non rfl (.inl rfl)) (pss_cons (ps_try_as (X := zCx X [a', r'', n] x sg g cdg s H) (i := 2) (c := .ref xC)
            (tb := fun W D σ H => ∃ Ech : XK, (∀ cls d H', Ech cls d H' → W cls d σ H') ∧ σ[0]? = some (some (.ref f)) ∧ H c' = some (CodeO c' q) ∧ tl Ech H fun _ H1 => D.nx σ H1)
            (ts := fun a cls d => tAsg (tTup (tHXs X.K X.mg 2 a cls d l)) (gName 1)) rfl rfl nd rfl ln1 ⟨lx, dx, .inl hxc⟩ L2.takes0 (fun W pn xe tk _ => ?_) (fun a oe cls d pn hz hf => ?_))
          (pss_one (ps_ret (pe_var (i := 1) rfl (.inl lr1) lr2 lr3)))), ?_⟩
        · refine pss_one ⟨fun pins s' σ H' D I h' => ?_⟩
          obtain ⟨Ech, hW, h1, h2, h3⟩ := h'
          exact (ps_expr (pos := p6) (act W pn xe Ech p4 p5 tk)).run pins s' σ H' D I ⟨hW, h1, h2, h3⟩
        · exact pss_one (ps_set (i := 1) nd rfl (.inl lr1) (pe_tup (hxs_ok Hcx hz hf hl)) rfl (.inl rfl))
        · refine ⟨fun cls d H' => PySem.W.exmOne X.K cls (.ref xC) = some true ∧ ∃ C dd fs vs, cls = .ref C ∧ d = some dd ∧ H' dd = some (.xd fs) ∧ Paired (HV X.K X.mg H' C fs) l vs ∧ vs.length ≤ sizeLine ∧ ∀ p, H' p = none → Q (.ref p) (upd H' p (.tup vs)), ?_, rfl, hco, ?_⟩
          · rintro cls d H' ⟨e1, C, dd, fs, vs, z1, z2, z3, z4, z5, z6⟩
            exact ⟨true, e1, fun _ a0 ha0 => ⟨C, dd, fs, vs, ⟨rfl, z1, z2, z3⟩, z4, z5, fun p hp => ⟨.ref p, rfl, z6 p hp⟩⟩, fun z => nomatch z⟩
          · have w' : tl _ H (fun _ H1 => Q .non H1) := w
            have e : (fun (_ : V) (H1 : Hp) => Q .non H1) = fun _ H1 => ∃ v, ([some (V.ref f), some V.non, none] : L2.St)[1]? = some (some v) ∧ Q v H1 := funext fun u => funext fun H1 => propext ⟨fun z => ⟨.non, rfl, z⟩, fun ⟨v, hv, z⟩ => by cases hv; exact z⟩
            rw [e] at w'
            exact w'
    · rw [if_neg e] at hc; cases hc
  · cases hc
end DL

/-! DX2: a lambda heard, by deep values. -/
namespace DL
open PySem PySem.Spec PyProof.Rows L2
variable {T : Tb}

/-- what is known of a def that hears a lambda: the class it catches, what it tells, what isinstance answers of that class -/
structure Hd where
  xc : Str
  hx : List HX
  isG : List (Str × Bool)
  isT : List (String × Bool)
def gReprD (d : D) : Option D := if d.plain && d.showable && decide (d.shown.length ≤ 1000000) && shal d then some (.str d.shown) else none
def hxD (hd : Hd) (x : Exc) : HX → Option D
  | .c d => if (scV d).isSome then some d else none
  | .fld f => x.fs.lookup f
  | .rep f => (x.fs.lookup f).bind gReprD
  | .isG y => (hd.isG.lookup y).map .bool
  | .isT t => (hd.isT.lookup t).map .bool
def hxDs (hd : Hd) (x : Exc) : List HX → Option (List D)
  | [] => some []
  | h :: r => match hxD hd x h, hxDs hd x r with
    | some d, some ds => some (d :: ds)
    | _, _ => none
def mHeard (hd : Hd) (m : DM Val) : DM Val := fun e => match m e with
  | .ok _ e1 => .ok (.fz .none) e1
  | .exc x e1 => if x.cls = hd.xc ∧ hd.hx.length ≤ 1000 then (match hxDs hd x hd.hx with
    | some ds => .ok (.fz (.tuple ds)) e1
    | none => .bad) else .bad
  | .bad => .bad
def noPars : Arguments → Bool
  | ⟨[], [], none, [], [], none, []⟩ => true
  | _ => false
theorem noPars_ok {p : Arguments} (h : noPars p = true) : p = ⟨[], [], none, [], [], none, []⟩ := by
  unfold noPars at h
  split at h
  · rfl
  · cases h
def HX.field : HX → Option Str
  | .fld f => some f
  | .rep f => some f
  | _ => none
/-- what the module says of a def that hears -/
structure HrdOk (K : PySem.W.Frag) (mg : Str → Option Value) (x : Str) (hd : Hd) : Prop where
  ex : ∃ (g xC : Addr) (pg : Arguments) (bg : List Stmt) (sg : Scope) (dV kV doc pm cdv ct oc : Value) (an od : Option Addr) (osl : Array (Option Value)) (a : Str) (fr : List Str) (h : HdP),
    mg x = some (.ref g) ∧ PySem.W.keepIn K (.ref g) = true ∧ K.lookup g = some ⟨oc, od, .func (PySem.W.fnOf x x pg bg sg dV kV doc pm an cdv ct), osl⟩ ∧ PySem.W.codeIn K cdv x = true ∧ L2.Binds K (PySem.W.fnOf x x pg bg sg dV kV doc pm an cdv ct) [a] [] ∧
      FnScope [a, h.r, h.n] [a] sg ∧ locL sg a = true ∧ cHeard sg fr a bg = some h ∧ h.xc = hd.xc ∧ h.hx = hd.hx ∧ (∀ y ∈ fr, mg y = none) ∧ mg hd.xc = some (.ref xC) ∧ PySem.W.exmOne K (.ref xC) (.ref xC) = some true ∧ XcOk K xC ∧
      (∀ q ∈ hd.hx, ∀ f, q.field = some f → PySem.W.findIn K (.ref xC) f = some none) ∧ (∀ y b, hd.isG.lookup y = some b → ∃ Y, mg y = some (.ref Y) ∧ PySem.W.kitOne K (.ref xC) (.ref Y) = some b) ∧ ∀ t b, hd.isT.lookup t = some b → PySem.W.kitOne K (.ref xC) (.type t) = some b
/-- the frame that makes lambdas: its code object's table is among the tables -/
structure LamOk (X : Cx) (c : Cc) (q : Str) : Prop where
  ex : ∃ (cd P : Addr), X.env.qual = q ∧ X.env.code = .ref cd ∧ LamX.TabB X.base X.mg cd P ∧ (P, q ++ "<lambda>") ∈ c.T ∧ ∀ p ∈ c.T, p.1 = P → p.2 = q ++ "<lambda>"
theorem fd_look {K : PySem.W.Frag} {H : Hp} {f : Str} {d : D} : ∀ {fs : List (Str × V)} {gs : List (Str × D)}, FdR K H fs gs → gs.lookup f = some d → ∃ v, fs.lookup f = some v ∧ Dr K H v d
  | [], _, .nil, h => by cases h
  | (y, v) :: fs, _, .cons (b := (z, e)) ⟨h1, h2⟩ r, h => by
    have h1' : y = z := h1
    subst h1'
    rw [List.lookup_cons] at h ⊢
    cases q : f == y with
    | true =>
      rw [q] at h
      cases h
      exact ⟨v, rfl, h2⟩
    | false =>
      rw [q] at h
      exact fd_look r h
section
variable {K : PySem.W.Frag} {mg : Str → Option Value} {hd : Hd} {x : Exc} {xC : Addr} {H Hf : Hp} {fs : List (Str × V)}
theorem hx_val (sm : Same Hf H) (fd : FdR K Hf fs x.fs) (T : XcOk K xC) (hG : ∀ y b, hd.isG.lookup y = some b → ∃ Y, mg y = some (.ref Y) ∧ PySem.W.kitOne K (.ref xC) (.ref Y) = some b) (hT : ∀ t b, hd.isT.lookup t = some b → PySem.W.kitOne K (.ref xC) (.type t) = some b) :
    ∀ {h : HX} {d : D}, (∀ f, h.field = some f → PySem.W.findIn K (.ref xC) f = some none) → hxD hd x h = some d → ∃ v, HV K mg H xC fs h v ∧ Dr K Hf v d
  | .c d, e, _, h => by
    dsimp only [hxD] at h
    cases q : scV d with
    | none => rw [q] at h; cases h
    | some v =>
      rw [q] at h
      cases h
      exact ⟨v, .c q, scV_dr q⟩
  | .fld f, d, hn, h => by
    obtain ⟨v, h1, h2⟩ := fd_look fd h
    exact ⟨v, .fld T (hn f rfl) h1, h2⟩
  | .rep f, d, hn, h => by
    dsimp only [hxD] at h
    cases q : x.fs.lookup f with
    | none => rw [q] at h; cases h
    | some z =>
      rw [q] at h
      obtain ⟨v, h1, h2⟩ := fd_look fd q
      have h' : gReprD z = some d := h
      unfold gReprD at h'
      by_cases hc : (z.plain && z.showable && decide (z.shown.length ≤ 1000000) && shal z) = true
      · rw [if_pos hc] at h'
        cases h'
        simp only [Bool.and_eq_true] at hc
        exact ⟨_, .rep T (hn f rfl) h1 ((h2.same sm).dp (plain_nod hc.1.1.1)) hc.1.1.1 hc.1.1.2 (line_le (of_decide_eq_true hc.1.2)) (of_decide_eq_true hc.2), .str _⟩
      · rw [if_neg hc] at h'; cases h'
  | .isG y, d, hn, h => by
    dsimp only [hxD] at h
    cases q : hd.isG.lookup y with
    | none => rw [q] at h; cases h
    | some b =>
      rw [q] at h
      cases h
      obtain ⟨Y, h1, h2⟩ := hG y b q
      exact ⟨_, .isG T h1 h2, .bl b⟩
  | .isT t, d, hn, h => by
    dsimp only [hxD] at h
    cases q : hd.isT.lookup t with
    | none => rw [q] at h; cases h
    | some b =>
      rw [q] at h
      cases h
      exact ⟨_, .isT T (hT t b q), .bl b⟩
theorem hxs_val (sm : Same Hf H) (fd : FdR K Hf fs x.fs) (T : XcOk K xC) (hG : ∀ y b, hd.isG.lookup y = some b → ∃ Y, mg y = some (.ref Y) ∧ PySem.W.kitOne K (.ref xC) (.ref Y) = some b) (hT : ∀ t b, hd.isT.lookup t = some b → PySem.W.kitOne K (.ref xC) (.type t) = some b) :
    ∀ {l : List HX} {ds : List D}, (∀ q ∈ l, ∀ f, q.field = some f → PySem.W.findIn K (.ref xC) f = some none) → hxDs hd x l = some ds → ∃ vs, Paired (HV K mg H xC fs) l vs ∧ DrA K Hf vs ds
  | [], ds, _, h => by
    cases h
    exact ⟨[], .nil, .nil⟩
  | q :: l, ds, hn, h => by
    unfold hxDs at h
    cases h1 : hxD hd x q with
    | none => simp only [h1] at h; cases h
    | some d =>
      cases h2 : hxDs hd x l with
      | none => simp only [h1, h2] at h; cases h
      | some k =>
        simp only [h1, h2] at h
        cases h
        obtain ⟨v, r1, r2⟩ := hx_val (mg := mg) sm fd T hG hT (hn q (by simp)) h1
        obtain ⟨vs, r3, r4⟩ := hxs_val sm fd T hG hT (fun q hq => hn q (by simp [hq])) h2
        exact ⟨v :: vs, .cons r1 r3, .cons r2 r4⟩
end
theorem hxDs_len {hd : Hd} {x : Exc} : ∀ {l : List HX} {ds : List D}, hxDs hd x l = some ds → ds.length = l.length
  | [], ds, h => by cases h; rfl
  | q :: l, ds, h => by
    unfold hxDs at h
    cases h1 : hxD hd x q with
    | none => simp only [h1] at h; cases h
    | some d =>
      cases h2 : hxDs hd x l with
      | none => simp only [h1, h2] at h; cases h
      | some k =>
        simp only [h1, h2] at h
        cases h
        simp [hxDs_len h2]
/-- all but the tables stands -/
theorem ER.ext {K : PySem.W.Frag} {L : Nat} {s : DSt} {H1 : Hp} (E : ER T K s) (eN : LamX.ExtN s.hp H1) (T1 : LamX.Tabs T H1) : ER T K ⟨s.st, s.en, H1, s.fr⟩ ∧ Ext L s ⟨s.st, s.en, H1, s.fr⟩ := by
  refine ⟨⟨E.len, fun b u h => eN b u (E.sub b u h) fun ps z => E.tb.2 b ps (by rw [h, z]), E.fz, fun i ds h => ?_, E.inj, T1, E.tb.2⟩, ⟨Same.refl _, fun a f => ?_, fun _ _ => rfl⟩⟩
  · obtain ⟨a, xs, h1, h2, h3, h4⟩ := E.ow i ds h
    exact ⟨a, xs, h1, eN _ _ h2 (fun ps z => by cases z), h3, h4⟩
  · obtain ⟨⟨f1, f2⟩, f3, f4⟩ := f
    cases q : s.hp a with
    | none => exact absurd q f1
    | some u =>
      have h1 : H1 a = some u := eN a u q fun ps z => f2 ps (by rw [q, z])
      exact ⟨⟨.of h1 fun ps z => f2 ps (by rw [q, z]), f3, f4⟩, h1⟩
theorem rd_heard {c : Cc} {hd : Hd} {m : DM Val} {xC : Addr} (hxc : c.mg hd.xc = some (.ref xC)) (hex : PySem.W.exmOne c.K (.ref xC) (.ref xC) = some true) (hT : XcOk c.K xC)
    (hn : ∀ q ∈ hd.hx, ∀ f, q.field = some f → PySem.W.findIn c.K (.ref xC) f = some none) (hG : ∀ y b, hd.isG.lookup y = some b → ∃ Y, c.mg y = some (.ref Y) ∧ PySem.W.kitOne c.K (.ref xC) (.ref Y) = some b) (ht : ∀ t b, hd.isT.lookup t = some b → PySem.W.kitOne c.K (.ref xC) (.type t) = some b)
    {σ : L2.St} {H : Hp} {Q : VK} (q : tR c (rV c) (mHeard hd m) σ H Q) :
    LamX.tLam c.T (TTh c.K c.mg xC hd.hx) (fun E => tR ⟨c.T, c.K, c.mg, c.L, fun C d _ H => E C d H⟩ (rV ⟨c.T, c.K, c.mg, c.L, fun C d _ H => E C d H⟩) m) σ H Q := by
  obtain ⟨e, Hf, E, q⟩ := q
  refine ⟨E.tb.1, fun H1 eN T1 => ?_⟩
  obtain ⟨E1, X1⟩ := E.ext (L := c.L) eN T1
  refine ⟨e, Hf, E1, ?_⟩
  unfold mHeard at q
  cases hm : m e with
  | bad => rw [hm] at q; exact q
  | ok v e1 =>
    rw [hm] at q
    intro b H' Hf' E' X' r
    exact q .non H' Hf' E' (X1.trans X') Dr.non
  | exc x e1 =>
    rw [hm] at q
    dsimp only at q
    by_cases hc : x.cls = hd.xc ∧ hd.hx.length ≤ 1000
    · rw [if_pos hc] at q
      obtain ⟨hc, hlen⟩ := hc
      cases hs : hxDs hd x hd.hx with
      | none => simp only [hs] at q; exact q.elim
      | some ds =>
        simp only [hs] at q
        intro C dx H' Hf' E' X' r
        obtain ⟨a, rfl, ha, d, fs, rfl, hdd, hfd⟩ := r
        rw [hc, hxc] at ha
        cases ha
        obtain ⟨vs, r1, r2⟩ := hxs_val (mg := c.mg) E'.sub hfd hT hG ht hn hs
        refine ⟨hex, xC, d, fs, vs, rfl, rfl, hdd, r1, ?_, fun p hp => ?_⟩
        · rw [DrA.len r2, hxDs_len hs]
          exact line_le (by omega)
        · obtain ⟨E2, X2, sm⟩ := E'.newFz (L := c.L) (.tup vs) hp
          exact q _ _ _ E2 ((X1.trans X').trans X2) (.tup (SqT.of upd_same) (DrA.same sm r2))
    · rw [if_neg hc] at q; exact q.elim
theorem de_heard {X : Cx} {c : Cc} {hd : Hd} {m : DM Val} {x q : Str} {k : Nat} {params : Arguments} {body : Expr} {scope : Scope} {p lpos pos : Pos} (hK : c.K = X.K) (hmg : c.mg = X.mg) (gu : X.A.guards = some []) (hg : Gl X x) (hdb : (x == ("__debug__" : Str)) = false)
    (R : HrdOk X.K X.mg x hd) (Lm : LamOk X c q) (hr : Room (k + 2) X.A) (L : LamX.LamS X.env.scope scope) (hp : noPars params = true)
    (hbody : ∀ (A : Around) (outer : List PySem.Env) (s : Shared) (H : Hp) (E : XK) (f c' : Addr), A.guards = some [] → Room k (A.deeper (LamX.lamEnv X scope s.heap.objs.size f c')) → DE (LamX.lamCx X A outer s H E scope f c') ⟨c.T, c.K, c.mg, c.L, fun C d _ H => E C d H⟩ body m) :
    DE X c (.Call (.Name x p) [.Lambda params body scope lpos] [] pos) (mHeard hd m) := by
  obtain ⟨g, xC, pg, bg, sg, dV, kV, doc, pm, cdv, ct, oc, an, od, osl, a, fr, h, h1, h2, h3, h4, h5, h6, h7, h8, h9, h10, h11, h12, h13, h14, h15, h16, h17⟩ := R.ex
  obtain ⟨cd, P, q1, q2, q3, q4, q5⟩ := Lm.ex
  obtain ⟨l1, l2, l3⟩ := locL_ok h7
  obtain rfl := noPars_ok hp
  rw [← q1] at q4 q5
  refine peImp (lam_call (T := c.T) (TT := TTh X.K X.mg xC hd.hx) (a := a) (Ng := [a, h.r, h.n]) (c := cd) (P := P) (k := k) gu hg h1 h2 h3 h4 h5 h6 rfl (.inl l1) ?_ q3 q2 q4 q5 hr L rfl (fun _ _ _ _ _ => rfl) (fun A outer s H E f c' gA hr2 => hbody A outer s H E f c' gA hr2) hdb l2 l3) fun σ H Q w => ?_
  · rw [← h10]
    exact heard_gives h8 gu h11 (by rw [h9]; exact h12)
  · rw [← hK] at h14 h16 h17 h13 h15 ⊢
    rw [← hmg] at h12 h16 ⊢
    exact rd_heard h12 h13 h14 h15 h16 h17 w
end DL

/-! DL10: expressions compiled to what they do, by deep values; soundness. -/
namespace DL
open PySem PySem.Spec PyProof.Rows L2
variable {T : Tb}

/-! ### the static context -/
structure Sc where
  N : List Str
  sc : Scope
  own : List Str
  T : List (Str × Fn)
  G : List (Str × D)
  Xs : List (Str × Str)
  fr : List Str
  lv : Nat
  L : Nat
  Hs : List (Str × Hd) := []
  tb : Option Str := none
def Sc.kd (S : Sc) (x : Str) : Option NameKind := S.sc.names.lookup x
def isVis : Option NameKind → Bool
  | some .local => true
  | some .cell => true
  | some .free => true
  | _ => false
def ixAt : List Str → Str → Nat → Option Nat
  | [], _, _ => none
  | y :: r, x, k => if y = x then some k else ixAt r x (k + 1)
theorem ixAt_ok : ∀ {l : List Str} {x : Str} {k i : Nat}, ixAt l x k = some i → k ≤ i ∧ l[i - k]? = some x
  | [], x, k, i, h => by simp [ixAt] at h
  | y :: r, x, k, i, h => by
    unfold ixAt at h
    by_cases e : y = x
    · rw [if_pos e] at h
      cases h
      simp [e]
    · rw [if_neg e] at h
      obtain ⟨h1, h2⟩ := ixAt_ok h
      refine ⟨by omega, ?_⟩
      rw [show i - k = (i - (k + 1)) + 1 by omega]
      simpa using h2
def Sc.slot (S : Sc) (x : Str) : Option Nat := if isVis (S.kd x) = true ∧ (x == ("__debug__" : Str)) = false ∧ (x == ("__classdict__" : Str)) = false then ixAt S.N x 0 else none
def Sc.glob (S : Sc) (x : Str) : Option D := if S.kd x = some .globalImplicit ∧ (x == ("__debug__" : Str)) = false then S.G.lookup x else none
def Sc.free (S : Sc) (x : Str) : Bool := decide (S.kd x = some .globalImplicit ∧ x ∈ S.fr ∧ (x == ("__debug__" : Str)) = false ∧ x ≠ ("__name__" : Str))
/-- where a name is stored -/
def Sc.put (S : Sc) (x : Str) : Option Nat := if (S.kd x = some .local ∨ S.kd x = some .cell) ∧ x ∈ S.own then ixAt S.N x 0 else none
/-- what is known of a class of exceptions with one field -/
structure ExcFact (X : Cx) (lv : Nat) (x f : Str) : Prop where
  ex : ∃ (C fI : Addr) (k : Nat) (fd : FuncData) (ps : List Str), X.mg x = some (.ref C) ∧ OexC X.K C ∧ PySem.W.findIn X.K (.ref C) "__init__" = some (some (.ref fI)) ∧ PySem.W.typeIn X.K (.ref fI) = some (.type "function") ∧
    FnOk X.prog X.w X.K X.mg X.base CX0 k fI fd ps (fun vs H Q _ => ∃ a y, vs = [.ref a, y] ∧ H a = some (exo a C none) ∧ ∀ dx, H dx = none → dx ≠ a → Q .non (upd (upd H dx (exd dx [(f, y)])) a (exo a C (some dx)))) ∧ k + 1 ≤ lv ∧ Binds X.K fd ps []
structure XOk (S : Sc) (X : Cx) (c : Cc) : Prop where
  K : c.K = X.K
  mg : c.mg = X.mg
  L : c.L = S.L
  N : X.N = S.N
  sc : X.env.scope = S.sc
  nd : S.N.Nodup
  calm : X.calm = true
  gu : X.A.guards = some []
  room : Room S.lv X.A
  tk : Takes X c.W
  blt : ∀ x ∈ S.fr, X.mg x = none
  fns : ∀ x fn, S.T.lookup x = some fn → ∃ f fd, X.mg x = some (.ref f) ∧ PySem.W.keepIn X.K (.ref f) = true ∧ Binds X.K fd fn.ps [] ∧ (∀ ks ∈ fn.ks, KB X.K fd fn.ps ks) ∧ FnG X.prog X.w X.K X.mg X.base fn.lv f fd fn.ps (spG c.T X.K X.mg fn.sem)
  cst : ∀ x d, S.G.lookup x = some d → ∃ v u, X.mg x = some u ∧ RelV v u ∧ ∀ H, Dr X.K H v d
  own : ∀ x ∈ S.own, X.fn x = true ∨ X.env.scope.names.lookup x = some .local
  hrd : ∀ x hd, S.Hs.lookup x = some hd → HrdOk X.K X.mg x hd
  lam : ∀ q, S.tb = some q → LamOk X c q
section
variable {S : Sc} {X : Cx} {c : Cc}
theorem XOk.un (h : XOk S X c) : X.A.units + 68 < cLine := by have := h.room.un; omega
theorem XOk.gl (h : XOk S X c) {x : Str} (e : S.kd x = some .globalImplicit) : Gl X x := by
  show X.env.scope.names.lookup x = _
  rw [h.sc]
  exact e
theorem XOk.slotE (h : XOk S X c) {x : Str} {i : Nat} {pos : Pos} (e : S.slot x = some i) : PE X (.Name x pos) (tVar i) := by
  unfold Sc.slot at e
  by_cases q : isVis (S.kd x) = true ∧ (x == ("__debug__" : Str)) = false ∧ (x == ("__classdict__" : Str)) = false
  · rw [if_pos q] at e
    obtain ⟨h1, h2⟩ := ixAt_ok e
    refine pe_var (by rw [h.N]; simpa using h2) ?_ q.2.1 q.2.2
    have q1 := q.1
    show X.env.scope.names.lookup x = _ ∨ _
    rw [h.sc]
    unfold Sc.kd at q1
    cases hk : S.sc.names.lookup x with
    | none => rw [hk] at q1; cases q1
    | some k =>
      rw [hk] at q1
      cases k with
      | «local» => exact .inl rfl
      | cell => exact .inr (.inl rfl)
      | free => exact .inr (.inr rfl)
      | globalExplicit => cases q1
      | globalImplicit => cases q1
  · rw [if_neg q] at e; cases e
theorem XOk.globE (h : XOk S X c) {x : Str} {d : D} {pos : Pos} (e : S.glob x = some d) : DE X c (.Name x pos) (mC d) := by
  unfold Sc.glob at e
  by_cases q : S.kd x = some .globalImplicit ∧ (x == ("__debug__" : Str)) = false
  · rw [if_pos q] at e
    obtain ⟨v, u, h1, h2, h3⟩ := h.cst x d e
    exact peImp (pe_glob (h.gl q.1) h1 h2 q.2) fun σ H Q w => rd_c (fun H => by rw [h.K]; exact h3 H) w
  · rw [if_neg q] at e; cases e
theorem XOk.freeE (h : XOk S X c) {x : Str} (e : S.free x = true) : Gl X x ∧ X.mg x = none ∧ (x == ("__debug__" : Str)) = false ∧ x ≠ ("__name__" : Str) := by
  obtain ⟨h1, h2, h3, h4⟩ := of_decide_eq_true e
  exact ⟨h.gl h1, h.blt x h2, h3, h4⟩
theorem XOk.putE (h : XOk S X c) {x : Str} {i : Nat} {pos : Pos} (e : S.put x = some i) : PG X (.Name x pos) (gName i) := by
  unfold Sc.put at e
  by_cases q : (S.kd x = some .local ∨ S.kd x = some .cell) ∧ x ∈ S.own
  · rw [if_pos q] at e
    obtain ⟨h1, h2⟩ := ixAt_ok e
    refine pg_name (by rw [h.N]; exact h.nd) (by rw [h.N]; simpa using h2) ?_ (h.own x q.2)
    have q1 := q.1
    show X.env.scope.names.lookup x = _ ∨ _
    rw [h.sc]
    exact q1
  · rw [if_neg q] at e; cases e
end

/-! ### tables -/
inductive B1 where
  | len | abs | int | list | tuple | all | any | repr
def B1.nm : B1 → Str
  | .len => "len" | .abs => "abs" | .int => "int" | .list => "list" | .tuple => "tuple" | .all => "all" | .any => "any" | .repr => "repr"
def B1.g : B1 → D → Option Val
  | .len => gLen | .abs => gAbs | .int => gInt | .list => gListOf | .tuple => gTupOf | .all => gAll | .any => gAny | .repr => gRepr
def allB1 : List B1 := [.len, .abs, .int, .list, .tuple, .all, .any, .repr]
def b1Of (x : Str) : Option B1 := allB1.find? fun b => decide (b.nm = x)
inductive B2 where
  | divmod | max | min
def B2.nm : B2 → Str
  | .divmod => "divmod" | .max => "max" | .min => "min"
def B2.g : B2 → D → D → Option Val
  | .divmod => gDivmod | .max => gMax2 | .min => gMin2
def allB2 : List B2 := [.divmod, .max, .min]
def b2Of (x : Str) : Option B2 := allB2.find? fun b => decide (b.nm = x)
def allTy : List Ty := [.int, .bool, .str, .tup, .lst, .dic]
def Ty.str' : Ty → Str
  | .int => "int" | .bool => "bool" | .str => "str" | .tup => "tuple" | .lst => "list" | .dic => "dict"
def tyOf (x : Str) : Option Ty := allTy.find? fun t => decide (t.str' = x)
theorem b1_nm {x : Str} {b : B1} (h : b1Of x = some b) : b.nm = x := by
  have := List.find?_some h
  exact of_decide_eq_true this
theorem b2_nm {x : Str} {b : B2} (h : b2Of x = some b) : b.nm = x := by
  have := List.find?_some h
  exact of_decide_eq_true this
theorem ty_nm {x : Str} {t : Ty} (h : tyOf x = some t) : t.str' = x := by
  have := List.find?_some h
  exact of_decide_eq_true this
theorem ty_boot (t : Ty) : bootBuiltins t.str' = some (.type t.nm) := by
  cases t <;> decide +kernel
def gOr (g g' : D → D → Option Val) : D → D → Option Val := fun d e => match g d e with
  | some z => some z
  | none => g' d e
def gAddI : D → D → Option Val := gI (fun _ _ => true) fun i j => .int (i + j)
def gSubI : D → D → Option Val := gI (fun _ _ => true) fun i j => .int (i - j)
def okMul (i j : Int) : Bool := decide (-(2 ^ 64) < i ∧ i < 2 ^ 64) || decide (-(2 ^ 64) < j ∧ j < 2 ^ 64)
def gMulI : D → D → Option Val := gI okMul fun i j => .int (i * j)
def gDivI : D → D → Option Val := gI (fun _ j => decide (0 < j ∧ j < 1073741824)) fun i j => .int (i / j)
def gModI : D → D → Option Val := gI (fun _ j => decide (0 < j)) fun i j => .int (i % j)
def okPow (i j : Int) : Bool := decide (0 ≤ j ∧ j ≤ 1000000 ∧ i.natAbs < 2 ^ 64)
def gPowI : D → D → Option Val := gI okPow fun i j => .int (i ^ j.toNat)
def gBin : Operator → Option (D → D → Option Val)
  | .Add => some (gOr gAddI (gOr gCatL (gOr gCatS gCatA)))
  | .Sub => some gSubI
  | .Mult => some (gOr gMulI (gOr gRep gRepT))
  | .FloorDiv => some gDivI
  | .Mod => some gModI
  | .Pow => some gPowI
  | _ => none
theorem bin_ok {S : Sc} {X : Cx} {c : Cc} (h : XOk S X c) {op : Operator} {g : D → D → Option Val} (e : gBin op = some g) {a b : Expr} {oa ob : Opd} {pos : Pos} (ha : DO X c a oa) (hb : DO X c b ob) : DE X c (.BinOp a op b pos) (mOp g oa ob) := by
  have un := h.un
  cases op <;> try (cases e; done)
  · cases e
    refine de_op (OpR.or op_add (OpR.or op_cat (OpR.or op_add_str op_catA))) (OpD.or (op_gI0 fun i j H => Dr.int _) (OpD.or op_gCatL (OpD.or op_gCatS ?_))) ha hb
    rw [h.K]; exact op_gCatA
  · cases e
    exact de_op op_sub (op_gI0 fun i j H => Dr.int _) ha hb
  · cases e
    refine de_op (OpR.or op_mul (OpR.or op_rep (OpR.or op_rep1 op_repT))) (OpD.or (op_gI (fun i j q => ?_) fun i j H => Dr.int _) (OpD.or op_gRep (by rw [h.K]; exact op_gRepT))) ha hb
    unfold okMul at q
    rcases (Bool.or_eq_true _ _).mp q with q | q
    · exact .inl (of_decide_eq_true q)
    · exact .inr (of_decide_eq_true q)
  · cases e
    exact de_op op_mod (op_gI (fun i j q => of_decide_eq_true q) fun i j H => Dr.int _) ha hb
  · cases e
    exact de_op op_pow (op_gI (fun i j q => (show 0 ≤ j ∧ j ≤ 1000000 ∧ i.natAbs < 2 ^ 64 from of_decide_eq_true q)) fun i j H => Dr.int _) ha hb
  · cases e
    exact de_op op_fdiv (op_gI (fun i j q => (show 0 < j ∧ j < 1073741824 from of_decide_eq_true q)) fun i j H => Dr.int _) ha hb
def gOrB (g g' : D → D → Option Bool) : D → D → Option Bool := fun d e => match g d e with
  | some z => some z
  | none => g' d e
def gIsB (neg : Bool) : D → D → Option Bool := fun d e => match d, e with
  | .bool a, .bool b => some (if neg then !decide (a = b) else decide (a = b))
  | _, _ => none
theorem cmp_isB {K : PySem.W.Frag} : CmpD T K rIsB (gIsB false) := by
  intro s x y d e b Q E rx ry hz q
  cases rx <;> cases ry <;> try (cases hz; done)
  cases hz
  exact ⟨_, _, rfl, rfl, q⟩
theorem cmp_notB {K : PySem.W.Frag} : CmpD T K rNotB (gIsB true) := by
  intro s x y d e b Q E rx ry hz q
  cases rx <;> cases ry <;> try (cases hz; done)
  cases hz
  exact ⟨_, _, rfl, rfl, q⟩
def gCmpOp : CmpOp → Option (D → D → Option Bool)
  | .Eq => some (gOrB gEqN gEqP)
  | .NotEq => some gNeP
  | .Lt => some (gCI fun i j => decide (i < j))
  | .LtE => some (gCI fun i j => decide (i ≤ j))
  | .Gt => some (gCI fun i j => decide (j < i))
  | .GtE => some (gCI fun i j => decide (j ≤ i))
  | .Is => some (gOrB (gIsN false) (gIsB false))
  | .IsNot => some (gOrB (gIsN true) (gIsB true))
  | .In => some gIn
  | .NotIn => some gNotIn
theorem cmpop_ok {S : Sc} {X : Cx} {c : Cc} (h : XOk S X c) {op : CmpOp} {g : D → D → Option Bool} (e : gCmpOp op = some g) : ∃ r, OpR X (compareOp op) r ∧ CmpD c.T c.K r g := by
  have un := h.un
  cases op <;> cases e
  · exact ⟨_, OpR.or (op_eqN (by omega)) (op_eqP (by omega)), CmpD.or (by rw [h.K]; exact cmp_eqN) (by rw [h.K]; exact cmp_eqP)⟩
  · exact ⟨_, op_neP (by omega), by rw [h.K]; exact cmp_neP⟩
  · exact ⟨_, op_lt, cmp_I⟩
  · exact ⟨_, op_le, cmp_I⟩
  · exact ⟨_, op_gt, cmp_I⟩
  · exact ⟨_, op_ge, cmp_I⟩
  · exact ⟨_, OpR.or op_isN op_isBl, CmpD.or cmp_isN cmp_isB⟩
  · exact ⟨_, OpR.or op_notN op_notBl, CmpD.or cmp_notN cmp_notB⟩
  · exact ⟨_, op_inP (by omega), by rw [h.K]; exact cmp_inP⟩
  · exact ⟨_, op_notInP (by omega), by rw [h.K]; exact cmp_notInP⟩
def isSet : Expr → Bool
  | .Set _ _ _ => true
  | _ => false
theorem mark_no {op : CmpOp} {e : Expr} (h : isSet e = false) : behindInMarks op e = false := by
  cases e <;> first | rfl | (cases h; done)
def isSlice : Expr → Bool
  | .Slice _ _ _ _ => true
  | _ => false
theorem plain_ix {e : Expr} (h : isSlice e = false) : PlainIx e := by
  intro o i
  cases e <;> first | rfl | (cases h; done)
theorem b1_ok {S : Sc} {X : Cx} {c : Cc} (h : XOk S X c) {x : Str} {b : B1} (e : b1Of x = some b) (hf : S.free x = true) {a : Expr} {o : Opd} {p pos : Pos} (ha : DO X c a o) (hs : isStar a = false) : DE X c (.Call (.Name x p) [a] [] pos) (mOp1 b.g o) := by
  obtain ⟨g1, g2, g3, g4⟩ := h.freeE hf
  have un := h.un
  have en := b1_nm e
  subst en
  have st : starEach [a] X.env = [(false, eval a X.env)] := star_no hs
  cases b with
  | len => exact de_b1 call_len (by rw [h.K]; exact op_gLen) g1 g2 boot_len ha st g4 g3
  | abs => exact de_b1 call_abs op_gAbs g1 g2 (by decide +kernel) ha st g4 g3
  | int => exact de_t1 call_int1 op_gInt g1 g2 (by decide +kernel) ha st g4 g3
  | list => exact de_t1 call_list_of (by rw [h.K]; exact op_gListOf) g1 g2 (by decide +kernel) ha st g4 g3
  | tuple => exact de_t1 call_tuple_of (by rw [h.K]; exact op_gTupOf) g1 g2 (by decide +kernel) ha st g4 g3
  | all => exact de_b1 (cr_all h.calm) (by rw [h.K]; exact op_gAll) g1 g2 (by decide +kernel) ha st g4 g3
  | any => exact de_b1 (cr_any h.calm) (by rw [h.K]; exact op_gAny) g1 g2 (by decide +kernel) ha st g4 g3
  | repr => exact de_b1 (call_repr h.gu un) (by rw [h.K]; exact op_gRepr) g1 g2 (by decide +kernel) ha st g4 g3
theorem b2_ok {S : Sc} {X : Cx} {c : Cc} (h : XOk S X c) {x : Str} {b : B2} (e : b2Of x = some b) (hf : S.free x = true) {a a' : Expr} {o o' : Opd} {p pos : Pos} (ha : DO X c a o) (ha' : DO X c a' o') (hs : isStar a = false) (hs' : isStar a' = false) : DE X c (.Call (.Name x p) [a, a'] [] pos) (mOp b.g o o') := by
  obtain ⟨g1, g2, g3, g4⟩ := h.freeE hf
  have en := b2_nm e
  subst en
  have st2 : starEach [a'] X.env = [(false, eval a' X.env)] := star_no hs'
  have st : starEach [a, a'] X.env = [(false, eval a X.env), (false, eval a' X.env)] := by rw [star_no hs, st2]
  cases b with
  | divmod => exact de_b2 call_divmod op_gDivmod g1 g2 (by decide +kernel) ha ha' st st2 g4 g3
  | max => exact de_b2 (call_max2 h.calm) op_gMax2 g1 g2 (by decide +kernel) ha ha' st st2 g4 g3
  | min => exact de_b2 (call_min2 h.calm) op_gMin2 g1 g2 (by decide +kernel) ha ha' st st2 g4 g3
theorem ty_ok {S : Sc} {X : Cx} {c : Cc} (h : XOk S X c) {x : Str} {t : Ty} (e : tyOf x = some t) (hf : S.free x = true) {p : Pos} : PE X (.Name x p) (tC (.ty t.nm)) := by
  obtain ⟨g1, g2, g3, g4⟩ := h.freeE hf
  have en := ty_nm e
  subst en
  exact pe_bltn g1 g2 (ty_boot t) rfl g4 g3
end DL

set_option maxHeartbeats 8000000
/-! DL11: the compiler of expressions; its soundness. -/
namespace DL
open PySem PySem.Spec PyProof.Rows L2
variable {T : Tb}

def relS (scope sc : Scope) : Scope := { scope with names := scope.names.map fun (n, k) => if (k == .free && sc.kind == .function && sc.names.lookup n == some .cell) then (n, .cell) else (n, k) }
/-- the static context of a comprehension's block -/
def Sc.inner (S : Sc) (scope : Scope) (t : CT) : Sc := { S with tb := none, sc := relS scope S.sc, own := scope.names.filterMap fun (n, k) => match k with
  | .local => some n
  | .cell => some n
  | _ => none }
/-- the static context of a lambda's body -/
def Sc.lam (S : Sc) (scope : Scope) : Sc := { S with tb := none, sc := scope, own := [], lv := S.lv - 2 }
/-- x(lambda: body) -/
def lamArg : List Expr → Option (Expr × Scope)
  | [.Lambda params body scope _] => if noPars params = true then some (body, scope) else none
  | _ => none
def namesOf : List Expr → Option (List Str)
  | [] => some []
  | .Name x _ :: r => (namesOf r).map (x :: ·)
  | _ :: _ => none
def slotsOf (S : Sc) : List Str → Option (List Nat)
  | [] => some []
  | x :: r => match S.put x, slotsOf S r with
    | some i, some l => some (i :: l)
    | _, _ => none
/-- a comprehension's target -/
def cCT (S : Sc) : Expr → Option CT
  | .Name x _ => (S.put x).map .nm
  | .Tuple es _ _ => match namesOf es with
    | some xs => (slotsOf S xs).map .tup
    | none => none
  | _ => none
/-- the block's own names with their slots -/
def ownOf (S : Sc) : Expr → List (Str × Nat)
  | .Name x _ => match S.put x with
    | some i => [(x, i)]
    | none => []
  | .Tuple es _ _ => match namesOf es with
    | some xs => match slotsOf S xs with
      | some is => xs.zip is
      | none => []
    | none => []
  | _ => []
def cTys (S : Sc) : List Expr → Option (List Ty)
  | [] => some []
  | .Name x _ :: r => match tyOf x, S.free x, cTys S r with
    | some t, true, some l => some (t :: l)
    | _, _, _ => none
  | _ :: _ => none
/-- the arguments of an own def: its flags tell which own lists may be lent -/
def arOf (S : Sc) (cE : Expr → Option (DM Val)) : List Bool → List Expr → Option (List Ar)
  | _, [] => some []
  | fl, e :: r => if isStar e then none else
    match arOf S cE fl.tail r with
    | none => none
    | some l => if fl.headD false then match e, r with
        | .Name x _, _ => match S.slot x with
          | some i => some (.sl i :: l)
          | none => (cE e).map fun m => .ex (mFz m) :: l
        | _, [] => (cE e).map fun m => [.own m]
        | _, _ => (cE e).map fun m => .ex (mFz m) :: l
      else (cE e).map fun m => .ex (mFz m) :: l
/-- a comprehension over a name's own list, or over another value -/
def iterSlot (S : Sc) : Expr → Option Nat
  | .Name x _ => S.slot x
  | _ => none
/-- the x of len(set(x)) -/
def setArg (f : Str) : Expr → Option Expr
  | .Call (.Name g _) [b] [] _ => if f = ("len" : Str) ∧ g = ("set" : Str) then some b else none
  | _ => none
theorem setArg_ok {f : Str} {a b : Expr} (h : setArg f a = some b) : f = ("len" : Str) ∧ ∃ p q, a = .Call (.Name ("set" : Str) p) [b] [] q := by
  unfold setArg at h
  split at h
  · rename_i g p b' q
    by_cases hc : f = ("len" : Str) ∧ g = ("set" : Str)
    · rw [if_pos hc] at h
      cases h
      obtain ⟨rfl, rfl⟩ := hc
      exact ⟨rfl, p, q, rfl⟩
    · rw [if_neg hc] at h; cases h
  · cases h
mutual
def cE : Nat → Sc → Expr → Option (DM Val)
  | 0, _, _ => none
  | n + 1, S, e => match e with
    | .Constant (.int i) _ _ => some (mC (.int i))
    | .Constant (.str x) _ _ => some (mC (.str x))
    | .Constant (.bool b) _ _ => some (mC (.bool b))
    | .Constant .none _ _ => some (mC .none)
    | .Name x _ => match S.slot x with
      | some i => some (mV S.L i)
      | none => (S.glob x).map mC
    | .Tuple es _ _ => if es.length ≤ 1000 then (cDs n S es).map fun ms => mTup (mAll ms) else none
    | .List es _ => if es.length ≤ 1000 then (cDs n S es).map fun ms => mLst (mAll ms) else none
    | .Dict [] [] _ => some (mC (.dict []))
    | .BinOp a op b _ => match gBin op, cO n S a, cO n S b with
      | some g, some oa, some ob => some (mOp g oa ob)
      | _, _, _ => none
    | .UnaryOp .USub a _ => (cO n S a).map (mOp1 gNeg)
    | .UnaryOp .Not a _ => (cE n S a).map fun m => mNotV (mToB m)
    | .BoolOp .And es _ => cAnd n S es
    | .BoolOp .Or es _ => cOr n S es
    | .Compare a [op] [b] _ => match gCmpOp op, cO n S a, cO n S b with
      | some g, some oa, some ob => if isSet b then none else some (mBV (mCmp g oa ob))
      | _, _, _ => none
    | .Compare a [op, op'] [b, d] _ => match gCmpOp op, gCmpOp op', cO n S a, cO n S b, cO n S d with
      | some g, some g', some oa, some ob, some od => if isSet d then none else some (mBV (mChain g g' oa ob od))
      | _, _, _, _, _ => none
    | .IfExp t a b _ => match cT n S t, cE n S a, cE n S b with
      | some mt, some ma, some mb => some (mIf mt ma mb)
      | _, _, _ => none
    | .Subscript a (.Slice lo hi none _) _ => match cO n S a, cP n S lo, cP n S hi with
      | some o, some l, some h => some (mSl o l h)
      | _, _, _ => none
    | .Subscript a b _ => match cO n S a, cO n S b with
      | some oa, some ob => if isSlice b then none else some (mOp gIx oa ob)
      | _, _ => none
    | .Call (.Name f _) args [] _ => match lamArg args with
      | some (body, scope) => match S.Hs.lookup f, S.tb with
        | some hd, some q => if S.kd f = some .globalImplicit ∧ (f == ("__debug__" : Str)) = false ∧ 2 ≤ S.lv ∧ LamX.lamSB S.sc scope = true then (cE n (S.lam scope) body).map (mHeard hd) else none
        | _, _ => none
      | none => cCall n S f args
    | .Call (.Name f _) [] kws _ => match cKws n S kws, S.T.lookup f with
      | some (xs, ms), some fn => if S.kd f = some .globalImplicit ∧ (f == ("__debug__" : Str)) = false ∧ fn.lv ≤ S.lv ∧ xs ∈ fn.ks then some (mCallK fn.sem xs fn.ps ms) else none
      | _, _ => none
    | .Call (.Attribute (.Name x _) m apos) [a] [] cpos => match S.slot x, cE n S a with
      | some i, some ma => if m = ("append" : Str) ∧ (apos.endLine == cpos.line) = true ∧ isStar a = false then some (mApp' i (mFz ma)) else none
      | _, _ => none
    | .ListComp elt [g] scope _ => match cCT (S.inner scope (.nm 0)) g.target with
      | some t => if (g.is_async == 0) = true ∧ blkC S.N S.sc scope (ownOf (S.inner scope (.nm 0)) g.target) = true ∧ (t.is.all fun i => decide (S.L ≤ i)) = true ∧ isSet g.iter = false then
          match cIfs n (S.inner scope t) g.ifs, cE n (S.inner scope t) elt with
          | some cond, some m => match iterSlot S g.iter with
            | some i => some (mCompO S.L i t cond (mFz m))
            | none => (cI n S g.iter).map fun it => mComp it t cond (mFz m)
          | _, _ => none
        else none
      | none => none
    | _ => none
def cCall : Nat → Sc → Str → List Expr → Option (DM Val)
  | 0, _, _, _ => none
  | n + 1, S, f, args => if S.free f then match args with
      | [a] => if isStar a then none else match setArg f a with
        | some b => if isStar b || !S.free ("set" : Str) then none else (cO n S b).map fun o => mOp1 gLenSet o
        | none => match b1Of f, cO n S a with
          | some b, some o => some (mOp1 b.g o)
          | _, _ => none
      | [a, b] => if isStar a || isStar b then none else if f = ("isinstance" : Str) then match b with
          | .Name y _ => match tyOf y, S.free y, cO n S a with
            | some t, true, some o => some (mOp1 (gIsi [t]) o)
            | _, _, _ => none
          | .Tuple es _ _ => match cTys S es, cO n S a with
            | some ts, some o => if ts.length ≤ 1000 then some (mOp1 (gIsi ts) o) else none
            | _, _ => none
          | _ => none
        else match b2Of f, cO n S a, cO n S b with
        | some g, some oa, some ob => some (mOp g.g oa ob)
        | _, _, _ => none
      | _ => none
    else match S.T.lookup f with
      | some fn => if S.kd f = some .globalImplicit ∧ (f == ("__debug__" : Str)) = false ∧ fn.lv ≤ S.lv then (arOf S (cE n S) fn.lend args).map fun l => mCall' fn.sem l else none
      | none => none
def cKws : Nat → Sc → List Keyword → Option (List Str × List (DM D))
  | 0, _, _ => none
  | n + 1, S, l => match l with
    | [] => some ([], [])
    | k :: r => match k.arg, cE n S k.value, cKws n S r with
      | some x, some m, some (xs, ms) => some (x :: xs, mFz m :: ms)
      | _, _, _ => none
def cO : Nat → Sc → Expr → Option Opd
  | 0, _, _ => none
  | n + 1, S, e => match e with
    | .Name x p => match S.slot x with
      | some i => some (.nm i)
      | none => (cE n S (.Name x p)).map fun m => .ex (mFz m)
    | e => (cE n S e).map fun m => .ex (mFz m)
def cDs : Nat → Sc → List Expr → Option (List (DM D))
  | 0, _, _ => none
  | n + 1, S, es => match es with
    | [] => some []
    | e :: r => if isStar e then none else match cE n S e, cDs n S r with
      | some m, some ms => some (mFz m :: ms)
      | _, _ => none
def cAnd : Nat → Sc → List Expr → Option (DM Val)
  | 0, _, _ => none
  | n + 1, S, es => match es with
    | [] => none
    | [a] => cE n S a
    | a :: r => match cE n S a, cAnd n S r with
      | some m, some k => some (mAndV (mToB m) k)
      | _, _ => none
def cOr : Nat → Sc → List Expr → Option (DM Val)
  | 0, _, _ => none
  | n + 1, S, es => match es with
    | [] => none
    | [a] => cE n S a
    | a :: r => match cE n S a, cOr n S r with
      | some m, some k => some (mOrV (mToB m) k)
      | _, _ => none
def cP : Nat → Sc → Option Expr → Option (Option (DM D))
  | 0, _, _ => none
  | n + 1, S, o => match o with
    | none => some none
    | some e => (cE n S e).map fun m => some (mFz m)
def cI : Nat → Sc → Expr → Option (DM (List D))
  | 0, _, _ => none
  | n + 1, S, e => match e with
    | .Call (.Name f p) args [] q => if f = ("range" : Str) ∧ S.free f = true then match args with
        | [a] => if isStar a then none else (cO n S a).map mRange1
        | [a, b] => if isStar a || isStar b then none else match cO n S a, cO n S b with
          | some oa, some ob => some (mRange2 oa ob)
          | _, _ => none
        | _ => none
      else (cE n S (.Call (.Name f p) args [] q)).map fun m => mSeqIt (mFz m)
    | e => (cE n S e).map fun m => mSeqIt (mFz m)
def cIfs : Nat → Sc → List Expr → Option (DM Bool)
  | 0, _, _ => none
  | n + 1, S, l => match l with
    | [] => some mYes
    | [t] => cT n S t
    | _ => none
def cT : Nat → Sc → Expr → Option (DM Bool)
  | 0, _, _ => none
  | n + 1, S, e => match e with
    | .BoolOp .And es _ => tAnds n S es
    | .BoolOp .Or es _ => tOrs n S es
    | .UnaryOp .Not a _ => (cT n S a).map mNot
    | .Compare a [op] [b] _ => match gCmpOp op, cO n S a, cO n S b with
      | some g, some oa, some ob => if isSet b then none else some (mCmp g oa ob)
      | _, _, _ => none
    | .Compare a [op, op'] [b, d] _ => match gCmpOp op, gCmpOp op', cO n S a, cO n S b, cO n S d with
      | some g, some g', some oa, some ob, some od => if isSet d then none else some (mChain g g' oa ob od)
      | _, _, _, _, _ => none
    | .Name x p => (cO n S (.Name x p)).map mTru
    | .Call f a k p => (cO n S (.Call f a k p)).map mTru
    | .Subscript a b p => (cO n S (.Subscript a b p)).map mTru
    | .BinOp a o b p => (cO n S (.BinOp a o b p)).map mTru
    | .Constant k j p => (cO n S (.Constant k j p)).map mTru
    | _ => none
def tAnds : Nat → Sc → List Expr → Option (DM Bool)
  | 0, _, _ => none
  | n + 1, S, es => match es with
    | [] => none
    | [a] => cT n S a
    | a :: r => match cT n S a, tAnds n S r with
      | some m, some k => some (mAnd m k)
      | _, _ => none
def tOrs : Nat → Sc → List Expr → Option (DM Bool)
  | 0, _, _ => none
  | n + 1, S, es => match es with
    | [] => none
    | [a] => cT n S a
    | a :: r => match cT n S a, tOrs n S r with
      | some m, some k => some (mOr m k)
      | _, _ => none
end
end DL

set_option maxHeartbeats 16000000
/-! DL12: the compiler of expressions is sound. -/
namespace DL
open PySem PySem.Spec PyProof.Rows L2
variable {T : Tb}

structure Snd (n : Nat) : Prop where
  E : ∀ S X c e m, XOk S X c → cE n S e = some m → DE X c e m
  call : ∀ S X c f args m (p pos : Pos), XOk S X c → cCall n S f args = some m → DE X c (.Call (.Name f p) args [] pos) m
  Kw : ∀ S X c kws xs ms, XOk S X c → cKws n S kws = some (xs, ms) → DKs X c kws ms ∧ ∀ pos, (backToKw pos (keywordEach kws X.env)).all (·.1.isSome) = true ∧ (backToKw pos (keywordEach kws X.env)).filterMap (·.1) = xs ∧ (backToKw pos (keywordEach kws X.env)).any (·.1.isNone) = false
  O : ∀ S X c e m, XOk S X c → cO n S e = some m → DO X c e m
  Ds : ∀ S X c es ms, XOk S X c → cDs n S es = some ms → DA X c es (mAll ms) ∧ ms.length = es.length
  An : ∀ S X c es m (pos : Pos), XOk S X c → cAnd n S es = some m → DE X c (.BoolOp .And es pos) m
  Or : ∀ S X c es m (pos : Pos), XOk S X c → cOr n S es = some m → DE X c (.BoolOp .Or es pos) m
  P : ∀ S X c e m, XOk S X c → cP n S e = some m → PO' X c e m
  I : ∀ S X c e m tg, XOk S X c → cI n S e = some m → DI X c tg e m
  If : ∀ S X c e m, XOk S X c → cIfs n S e = some m → PTs X e (tR c rB m)
  T : ∀ S X c e m, XOk S X c → cT n S e = some m → DT X c e m
  Ta : ∀ S X c es m (pos : Pos), XOk S X c → tAnds n S es = some m → DW X c (.BoolOp .And es pos) m
  To : ∀ S X c es m (pos : Pos), XOk S X c → tOrs n S es = some m → DW X c (.BoolOp .Or es pos) m
theorem fold_no {e : Expr} {env : PySem.Env} (h : isSet e = false) : ∀ x, foldedSetIterable e env x = pure x := by
  intro x
  cases e <;> first | rfl | (cases h; done)
theorem inner_ok {S : Sc} {X : Cx} {c : Cc} (h : XOk S X c) {scope : Scope} {own : List (Str × Nat)} (ok : BlkOk X.N X.env.scope scope own) (t : CT) (s : Shared) (H : Hp) (C : Addr) (cl : List (Str × Addr)) (fp : List Addr) :
    XOk (S.inner scope t) (X.blk s H scope (compEnvC scope cl C X.env) fp) c.quiet where
  K := h.K
  mg := h.mg
  L := h.L
  N := h.N
  sc := by
    show relabel scope X.env = relS scope S.sc
    unfold relabel relS
    rw [← h.sc]
    rfl
  nd := h.nd
  calm := h.calm
  gu := h.gu
  room := h.room
  tk := takes0
  blt := h.blt
  fns := h.fns
  cst := h.cst
  hrd := h.hrd
  lam := fun _ z => nomatch z
  own := fun x hx => by
    unfold Sc.inner at hx
    obtain ⟨y, hy, e⟩ := List.mem_filterMap.mp hx
    obtain ⟨n, k⟩ := y
    have u := ok.uniq _ hy
    dsimp only at e u
    cases k with
    | «local» =>
      have e' : n = x := Option.some.inj e
      rw [e'] at u
      exact .inr (lookup_relabel_local u)
    | cell =>
      have e' : n = x := Option.some.inj e
      rw [e'] at u
      refine .inl ?_
      show (scope.names.lookup x == some NameKind.cell) = true
      rw [u]
      rfl
    | free => cases e
    | globalExplicit => cases e
    | globalImplicit => cases e
theorem lam_ok {S : Sc} {X : Cx} {c : Cc} (h : XOk S X c) {scope : Scope} {A : Around} {outer : List PySem.Env} {s : Shared} {H : Hp} {E : XK} {f c' : Addr} (gu : A.guards = some []) (hr : Room (S.lv - 2) (A.deeper (LamX.lamEnv X scope s.heap.objs.size f c'))) :
    XOk (S.lam scope) (LamX.lamCx X A outer s H E scope f c') ⟨c.T, c.K, c.mg, c.L, fun C d _ H => E C d H⟩ where
  K := h.K
  mg := h.mg
  L := h.L
  N := h.N
  sc := rfl
  nd := h.nd
  calm := rfl
  gu := gu
  room := hr
  tk := takes_of rfl rfl rfl rfl
  blt := h.blt
  fns := h.fns
  cst := h.cst
  own := fun _ z => nomatch z
  hrd := h.hrd
  lam := fun _ z => nomatch z
theorem slots_len {S : Sc} : ∀ {xs : List Str} {is : List Nat}, slotsOf S xs = some is → xs.length = is.length
  | [], is, h => by cases h; rfl
  | x :: r, is, h => by
    unfold slotsOf at h
    cases h1 : S.put x with
    | none => simp only [h1] at h; cases h
    | some i =>
      cases h2 : slotsOf S r with
      | none => simp only [h1, h2] at h; cases h
      | some l =>
        simp only [h1, h2] at h
        cases h
        simp [slots_len h2]
theorem own_is {S : Sc} {e : Expr} {t : CT} (h : cCT S e = some t) : (ownOf S e).map (·.2) = t.is := by
  unfold cCT at h
  split at h
  · rename_i x p
    cases h1 : S.put x with
    | none => rw [h1] at h; cases h
    | some i =>
      rw [h1] at h
      cases h
      simp [ownOf, h1, CT.is]
  · rename_i es k p
    cases h1 : namesOf es with
    | none => simp only [h1] at h; cases h
    | some xs =>
      simp only [h1] at h
      cases h2 : slotsOf S xs with
      | none => rw [h2] at h; cases h
      | some is =>
        rw [h2] at h
        cases h
        simp only [ownOf, h1, h2, CT.is]
        rw [List.map_snd_zip]
        rw [slots_len h2]
        exact Nat.le_refl _
  · cases h
theorem names_pgs {S : Sc} {X : Cx} {c : Cc} (h : XOk S X c) : ∀ {es : List Expr} {xs : List Str} {is : List Nat}, namesOf es = some xs → slotsOf S xs = some is → PGs X es (gNames is) ∧ (assignEach es X.env).length = is.length ∧ (assignEach es X.env).findIdx? (·.1) = none
  | [], xs, is, h1, h2 => by
    cases h1
    cases h2
    exact ⟨pgs_nil, rfl, rfl⟩
  | e :: r, xs, is, h1, h2 => by
    cases e with
    | Name x p =>
      unfold namesOf at h1
      cases h3 : namesOf r with
      | none => rw [h3] at h1; cases h1
      | some ys =>
        rw [h3] at h1
        cases h1
        unfold slotsOf at h2
        cases h4 : S.put x with
        | none => simp only [h4] at h2; cases h2
        | some i =>
          cases h5 : slotsOf S ys with
          | none => simp only [h4, h5] at h2; cases h2
          | some l =>
            simp only [h4, h5] at h2
            cases h2
            obtain ⟨g1, g2, g3⟩ := names_pgs h h3 h5
            refine ⟨pgs_cons (h.putE h4) g1 rfl, ?_, ?_⟩
            · show (assignEach r X.env).length + 1 = _
              rw [g2]
              rfl
            · show ((false, assign (.Name x p) X.env) :: assignEach r X.env).findIdx? (·.1) = none
              rw [List.findIdx?_cons]
              simp [g3]
    | _ => simp [namesOf] at h1
theorem ct_pg {S : Sc} {X : Cx} {c : Cc} (h : XOk S X c) {e : Expr} {t : CT} (ht : cCT S e = some t) : PG X e (gCT X.K t) := by
  unfold cCT at ht
  split at ht
  · rename_i x p
    cases h1 : S.put x with
    | none => rw [h1] at ht; cases ht
    | some i =>
      rw [h1] at ht
      cases ht
      exact h.putE h1
  · rename_i es k p
    cases h1 : namesOf es with
    | none => simp only [h1] at ht; cases ht
    | some xs =>
      simp only [h1] at ht
      cases h2 : slotsOf S xs with
      | none => rw [h2] at ht; cases ht
      | some is =>
        rw [h2] at ht
        cases ht
        obtain ⟨g1, g2, g3⟩ := names_pgs h h1 h2
        exact pg_tup h.calm g1 g2 g3
  · cases ht
theorem tys_ok {S : Sc} {X : Cx} {c : Cc} (h : XOk S X c) : ∀ {es : List Expr} {ts : List Ty}, cTys S es = some ts → PA X es (tTys ts)
  | [], ts, e => by
    cases e
    exact pa_nil
  | e :: r, ts, he => by
    cases e with
    | Name x p =>
      unfold cTys at he
      cases h1 : tyOf x with
      | none => simp only [h1] at he; cases he
      | some t =>
        cases h2 : S.free x with
        | false => simp only [h1, h2] at he; cases he
        | true =>
          cases h3 : cTys S r with
          | none => simp only [h1, h2, h3] at he; cases he
          | some l =>
            simp only [h1, h2, h3] at he
            cases he
            exact pa_cons (ty_ok h h1 h2) (tys_ok h h3) rfl
    | _ => simp [cTys] at he
theorem ar_ok {S : Sc} {X : Cx} {c : Cc} (h : XOk S X c) {f : Expr → Option (DM Val)} (hf : ∀ e m, f e = some m → DE X c e m) : ∀ {es : List Expr} {fl : List Bool} {l : List Ar}, arOf S f fl es = some l → Paired (ArgE X c) es l ∧ ∀ e ∈ es, isStar e = false
  | [], fl, l, e => by
    have : l = [] := by cases fl <;> (unfold arOf at e; cases e; rfl)
    subst this
    exact ⟨.nil, by simp⟩
  | e :: r, fl, l, he => by
    unfold arOf at he
    cases hs : isStar e with
    | true => rw [hs, if_pos rfl] at he; cases he
    | false =>
      rw [hs, if_neg Bool.false_ne_true] at he
      cases h1 : arOf S f fl.tail r with
      | none => simp only [h1] at he; cases he
      | some k =>
        simp only [h1] at he
        obtain ⟨g1, g2⟩ := ar_ok h hf h1
        have fin : ∀ a, ArgE X c e a → Paired (ArgE X c) (e :: r) (a :: k) ∧ ∀ x ∈ e :: r, isStar x = false := fun a ha => ⟨.cons ha g1, fun x hx => by
          rcases List.mem_cons.mp hx with z | z
          · rw [z]; exact hs
          · exact g2 x z⟩
        have plain : ∀ {l' : List Ar}, ((f e).map fun m => Ar.ex (mFz m) :: k) = some l' → Paired (ArgE X c) (e :: r) l' ∧ ∀ x ∈ e :: r, isStar x = false := fun {l'} q => by
          cases h2 : f e with
          | none => rw [h2] at q; cases q
          | some m =>
            rw [h2] at q
            cases q
            exact fin _ (.ex (dd_fz (hf e m h2)))
        by_cases hb : fl.headD false = true
        · rw [if_pos hb] at he
          have last : r = [] → ((f e).map fun m => [Ar.own m]) = some l → Paired (ArgE X c) (e :: r) l ∧ ∀ x ∈ e :: r, isStar x = false := fun er q => by
            cases h2 : f e with
            | none => rw [h2] at q; cases q
            | some m =>
              rw [h2] at q
              cases q
              subst er
              unfold arOf at h1
              cases h1
              exact fin _ (.own (hf e m h2))
          cases e with
          | Name x p =>
            dsimp only at he
            cases h3 : S.slot x with
            | none => simp only [h3] at he; exact plain he
            | some i =>
              simp only [h3] at he
              cases he
              exact fin _ (.sl (h.slotE h3))
          | _ =>
            cases r with
            | nil => exact last rfl he
            | cons b bs => exact plain he
        · rw [if_neg hb] at he
          exact plain he
theorem snd_zero : Snd 0 := by
  constructor <;> intros <;> first
    | (rename_i h; simp [cE] at h; done)
    | (rename_i h; simp [cCall] at h; done)
    | (rename_i h; simp [cO] at h; done)
    | (rename_i h; simp [cKws] at h; done)
    | (rename_i h; simp [cDs] at h; done)
    | (rename_i h; simp [cAnd] at h; done)
    | (rename_i h; simp [cOr] at h; done)
    | (rename_i h; simp [cP] at h; done)
    | (rename_i h; simp [cI] at h; done)
    | (rename_i h; simp [cIfs] at h; done)
    | (rename_i h; simp [cT] at h; done)
    | (rename_i h; simp [tAnds] at h; done)
    | (rename_i h; simp [tOrs] at h; done)
end DL

/-! DL13: the compiler of expressions is sound: the steps. -/
namespace DL
open PySem PySem.Spec PyProof.Rows L2
variable {T : Tb}
section
variable {n : Nat} {S : Sc} {X : Cx} {c : Cc}
theorem len_ok {k : Nat} (h : k ≤ 1000) : k ≤ sizeLine := line_le (by omega)
theorem st_Ds (ih : Snd n) (h : XOk S X c) {es : List Expr} {ms : List (DM D)} (e : cDs (n + 1) S es = some ms) : DA X c es (mAll ms) ∧ ms.length = es.length := by
  unfold cDs at e
  cases es with
  | nil => cases e; exact ⟨da_nil, rfl⟩
  | cons a r =>
    dsimp only at e
    cases hs : isStar a with
    | true => rw [hs, if_pos rfl] at e; cases e
    | false =>
      rw [hs, if_neg Bool.false_ne_true] at e
      cases h1 : cE n S a with
      | none => simp only [h1] at e; cases e
      | some m =>
        cases h2 : cDs n S r with
        | none => simp only [h1, h2] at e; cases e
        | some k =>
          simp only [h1, h2] at e
          cases e
          obtain ⟨g1, g2⟩ := ih.Ds S X c r k h h2
          exact ⟨da_cons (dd_fz (ih.E S X c a m h h1)) g1 (star_no hs), by simp [g2]⟩
theorem st_O (ih : Snd n) (h : XOk S X c) {e : Expr} {o : Opd} (q : cO (n + 1) S e = some o) : DO X c e o := by
  have other : ((cE n S e).map fun m => Opd.ex (mFz m)) = some o → DO X c e o := fun q => by
    cases h1 : cE n S e with
    | none => rw [h1] at q; cases q
    | some m =>
      rw [h1] at q
      cases q
      exact dd_fz (ih.E S X c e m h h1)
  cases e with
  | Name x p =>
    unfold cO at q
    dsimp only at q
    cases h2 : S.slot x with
    | none => simp only [h2] at q; exact other q
    | some i =>
      simp only [h2] at q
      cases q
      exact h.slotE h2
  | _ => unfold cO at q; exact other q
theorem st_Kw (ih : Snd n) (h : XOk S X c) {kws : List Keyword} {xs : List Str} {ms : List (DM D)} (e : cKws (n + 1) S kws = some (xs, ms)) :
    DKs X c kws ms ∧ ∀ pos, (backToKw pos (keywordEach kws X.env)).all (·.1.isSome) = true ∧ (backToKw pos (keywordEach kws X.env)).filterMap (·.1) = xs ∧ (backToKw pos (keywordEach kws X.env)).any (·.1.isNone) = false := by
  unfold cKws at e
  cases kws with
  | nil => cases e; exact ⟨dk_nil, fun pos => ⟨rfl, rfl, rfl⟩⟩
  | cons k r =>
    obtain ⟨nm, a, kp⟩ := k
    dsimp only at e
    cases nm with
    | none => cases e
    | some x =>
      cases h1 : cE n S a with
      | none => simp only [h1] at e; cases e
      | some m =>
        cases h2 : cKws n S r with
        | none => simp only [h1, h2] at e; cases e
        | some z =>
          obtain ⟨ys, ns⟩ := z
          simp only [h1, h2] at e
          cases e
          obtain ⟨g1, g2⟩ := ih.Kw S X c r ys ns h h2
          refine ⟨dk_cons (dd_fz (ih.E S X c a m h h1)) g1, fun pos => ?_⟩
          obtain ⟨r1, r2, r3⟩ := g2 pos
          exact ⟨r1, congrArg (x :: ·) r2, r3⟩
theorem st_An (ih : Snd n) (h : XOk S X c) {es : List Expr} {m : DM Val} {pos : Pos} (e : cAnd (n + 1) S es = some m) : DE X c (.BoolOp .And es pos) m := by
  unfold cAnd at e
  cases es with
  | nil => cases e
  | cons a r =>
    cases r with
    | nil => exact de_one (ih.E S X c a m h e)
    | cons b r =>
      dsimp only at e
      cases h1 : cE n S a with
      | none => simp only [h1] at e; cases e
      | some k =>
        cases h2 : cAnd n S (b :: r) with
        | none => simp only [h1, h2] at e; cases e
        | some l =>
          simp only [h1, h2] at e
          cases e
          exact de_and (ih.E S X c a k h h1) (ih.An S X c (b :: r) l pos h h2)
theorem st_Or (ih : Snd n) (h : XOk S X c) {es : List Expr} {m : DM Val} {pos : Pos} (e : cOr (n + 1) S es = some m) : DE X c (.BoolOp .Or es pos) m := by
  unfold cOr at e
  cases es with
  | nil => cases e
  | cons a r =>
    cases r with
    | nil => exact de_one (ih.E S X c a m h e)
    | cons b r =>
      dsimp only at e
      cases h1 : cE n S a with
      | none => simp only [h1] at e; cases e
      | some k =>
        cases h2 : cOr n S (b :: r) with
        | none => simp only [h1, h2] at e; cases e
        | some l =>
          simp only [h1, h2] at e
          cases e
          exact de_or (ih.E S X c a k h h1) (ih.Or S X c (b :: r) l pos h h2)
theorem st_Ta (ih : Snd n) (h : XOk S X c) {es : List Expr} {m : DM Bool} {pos : Pos} (e : tAnds (n + 1) S es = some m) : DW X c (.BoolOp .And es pos) m := by
  unfold tAnds at e
  cases es with
  | nil => cases e
  | cons a r =>
    cases r with
    | nil => exact dw_one_and (ih.T S X c a m h e)
    | cons b r =>
      dsimp only at e
      cases h1 : cT n S a with
      | none => simp only [h1] at e; cases e
      | some k =>
        cases h2 : tAnds n S (b :: r) with
        | none => simp only [h1, h2] at e; cases e
        | some l =>
          simp only [h1, h2] at e
          cases e
          exact dw_and (ih.T S X c a k h h1) (ih.Ta S X c (b :: r) l pos h h2)
theorem st_To (ih : Snd n) (h : XOk S X c) {es : List Expr} {m : DM Bool} {pos : Pos} (e : tOrs (n + 1) S es = some m) : DW X c (.BoolOp .Or es pos) m := by
  unfold tOrs at e
  cases es with
  | nil => cases e
  | cons a r =>
    cases r with
    | nil => exact dw_one_or (ih.T S X c a m h e)
    | cons b r =>
      dsimp only at e
      cases h1 : cT n S a with
      | none => simp only [h1] at e; cases e
      | some k =>
        cases h2 : tOrs n S (b :: r) with
        | none => simp only [h1, h2] at e; cases e
        | some l =>
          simp only [h1, h2] at e
          cases e
          exact dw_or (ih.T S X c a k h h1) (ih.To S X c (b :: r) l pos h h2)
theorem st_P (ih : Snd n) (h : XOk S X c) {o : Option Expr} {m : Option (DM D)} (e : cP (n + 1) S o = some m) : PO' X c o m := by
  unfold cP at e
  cases o with
  | none => cases e; exact po_no
  | some a =>
    dsimp only at e
    cases h1 : cE n S a with
    | none => rw [h1] at e; cases e
    | some k =>
      rw [h1] at e
      cases e
      exact po_yes (dd_fz (ih.E S X c a k h h1))
theorem st_If (ih : Snd n) (h : XOk S X c) {l : List Expr} {m : DM Bool} (e : cIfs (n + 1) S l = some m) : PTs X l (tR c rB m) := by
  unfold cIfs at e
  cases l with
  | nil =>
    cases e
    refine ⟨fun pins s σ H Q I q => pts_nil.run pins s σ H Q I ?_⟩
    obtain ⟨en, Hf, E, q⟩ := q
    exact q true H Hf E Ext.refl rfl
  | cons a r =>
    cases r with
    | nil => exact pts_one (ih.T S X c a m h e)
    | cons b r => cases e
theorem st_I (ih : Snd n) (h : XOk S X c) {e tg : Expr} {m : DM (List D)} (q : cI (n + 1) S e = some m) : DI X c tg e m := by
  have other : ((cE n S e).map fun m => mSeqIt (mFz m)) = some m → DI X c tg e m := fun q => by
    cases h1 : cE n S e with
    | none => rw [h1] at q; cases q
    | some k =>
      rw [h1] at q
      cases q
      exact di_seq h.K (dd_fz (ih.E S X c e k h h1))
  unfold cI at q
  split at q
  · rename_i f p args pq
    by_cases hf : f = ("range" : Str) ∧ S.free f = true
    · rw [if_pos hf] at q
      obtain ⟨rfl, hf⟩ := hf
      obtain ⟨g1, g2, g3, g4⟩ := h.freeE hf
      split at q
      · rename_i a
        cases hs : isStar a with
        | true => rw [hs, if_pos rfl] at q; cases q
        | false =>
          rw [hs, if_neg Bool.false_ne_true] at q
          cases h1 : cO n S a with
          | none => rw [h1] at q; cases q
          | some o =>
            rw [h1] at q
            cases q
            exact di_range1 g1 g2 (ih.O S X c a o h h1) (star_no hs)
      · rename_i a b
        by_cases hs : (isStar a || isStar b) = true
        · rw [if_pos hs] at q; cases q
        · rw [if_neg hs] at q
          have hs' := Bool.or_eq_false_iff.mp (Bool.not_eq_true _ ▸ hs)
          cases h1 : cO n S a with
          | none => simp only [h1] at q; cases q
          | some o =>
            cases h2 : cO n S b with
            | none => simp only [h1, h2] at q; cases q
            | some o' =>
              simp only [h1, h2] at q
              cases q
              have s2 : starEach [b] X.env = [(false, eval b X.env)] := star_no hs'.2
              exact di_range2 g1 g2 (ih.O S X c a o h h1) (ih.O S X c b o' h h2) (by rw [star_no hs'.1, s2]) s2
      · cases q
    · rw [if_neg hf] at q
      exact other q
  · exact other q
theorem st_call (ih : Snd n) (h : XOk S X c) {f : Str} {args : List Expr} {m : DM Val} {p pos : Pos} (q : cCall (n + 1) S f args = some m) : DE X c (.Call (.Name f p) args [] pos) m := by
  unfold cCall at q
  cases hf : S.free f with
  | true =>
    rw [hf, if_pos rfl] at q
    split at q
    · rename_i a
      cases hs : isStar a with
      | true => rw [hs, if_pos rfl] at q; cases q
      | false =>
        rw [hs, if_neg Bool.false_ne_true] at q
        cases hz : setArg f a with
        | some b =>
          rw [hz] at q
          dsimp only at q
          by_cases hc : (isStar b || !S.free ("set" : Str)) = true
          · rw [if_pos hc] at q; cases q
          · rw [if_neg hc] at q
            obtain ⟨c1, c2⟩ := Bool.or_eq_false_iff.mp (Bool.not_eq_true _ ▸ hc)
            have c2' : S.free ("set" : Str) = true := by simpa using c2
            obtain ⟨rfl, p2, q2, rfl⟩ := setArg_ok hz
            obtain ⟨g1, g2, _, _⟩ := h.freeE hf
            obtain ⟨g3, g4, _, _⟩ := h.freeE c2'
            cases h2 : cO n S b with
            | none => rw [h2] at q; cases q
            | some o =>
              rw [h2] at q
              cases q
              have un := h.un
              exact de_lenSet h.K h.calm (by omega) g1 g2 g3 g4 (ih.O S X c b o h h2) (star_no c1)
        | none =>
        rw [hz] at q
        dsimp only at q
        cases h1 : b1Of f with
        | none => simp only [h1] at q; cases q
        | some b =>
          cases h2 : cO n S a with
          | none => simp only [h1, h2] at q; cases q
          | some o =>
            simp only [h1, h2] at q
            cases q
            exact b1_ok h h1 hf (ih.O S X c a o h h2) hs
    · rename_i a b
      by_cases hs : (isStar a || isStar b) = true
      · rw [if_pos hs] at q; cases q
      · rw [if_neg hs] at q
        have hs' := Bool.or_eq_false_iff.mp (Bool.not_eq_true _ ▸ hs)
        by_cases hi : f = ("isinstance" : Str)
        · rw [if_pos hi] at q
          subst hi
          obtain ⟨g1, g2, g3, g4⟩ := h.freeE hf
          split at q
          · rename_i y py
            cases h1 : tyOf y with
            | none => simp only [h1] at q; cases q
            | some t =>
              cases h2 : S.free y with
              | false => simp only [h1, h2] at q; cases q
              | true =>
                cases h3 : cO n S a with
                | none => simp only [h1, h2, h3] at q; cases q
                | some o =>
                  simp only [h1, h2, h3] at q
                  cases q
                  exact de_isi1 h.K g1 g2 (by decide +kernel) (ih.O S X c a o h h3) (ty_ok h h1 h2) (by rw [star_no hs'.1]; rfl) g4 g3
          · rename_i es k py
            cases h1 : cTys S es with
            | none => simp only [h1] at q; cases q
            | some ts =>
              cases h3 : cO n S a with
              | none => simp only [h1, h3] at q; cases q
              | some o =>
                simp only [h1, h3] at q
                by_cases hl : ts.length ≤ 1000
                · rw [if_pos hl] at q
                  cases q
                  exact de_isiT h.K (len_ok hl) g1 g2 (by decide +kernel) (ih.O S X c a o h h3) (tys_ok h h1) (by rw [star_no hs'.1]; rfl) g4 g3
                · rw [if_neg hl] at q; cases q
          · cases q
        · rw [if_neg hi] at q
          cases h1 : b2Of f with
          | none => simp only [h1] at q; cases q
          | some g =>
            cases h2 : cO n S a with
            | none => simp only [h1, h2] at q; cases q
            | some o =>
              cases h3 : cO n S b with
              | none => simp only [h1, h2, h3] at q; cases q
              | some o' =>
                simp only [h1, h2, h3] at q
                cases q
                exact b2_ok h h1 hf (ih.O S X c a o h h2) (ih.O S X c b o' h h3) hs'.1 hs'.2
    · cases q
  | false =>
    rw [hf, if_neg Bool.false_ne_true] at q
    cases h1 : S.T.lookup f with
    | none => simp only [h1] at q; cases q
    | some fn =>
      simp only [h1] at q
      by_cases hc : S.kd f = some .globalImplicit ∧ (f == ("__debug__" : Str)) = false ∧ fn.lv ≤ S.lv
      · rw [if_pos hc] at q
        cases h2 : arOf S (cE n S) fn.lend args with
        | none => rw [h2] at q; cases q
        | some l =>
          rw [h2] at q
          cases q
          obtain ⟨fa, fd, g1, g2, g3, _, g4⟩ := h.fns f fn h1
          obtain ⟨r1, r2⟩ := ar_ok h (fun e m hm => ih.E S X c e m h hm) h2
          have pa := pa_args r1 (fun e he r => star_no (r2 e he))
          have rr : Room fn.lv X.A := h.room.mono hc.2.2
          cases args with
          | nil =>
            cases r1
            refine peImp (peCallG0 g4 h.gu rr (h.gl hc.1) g1 g2 g3 h.tk hc.2.1) fun σ H Q w => ?_
            have w2 := rd_call w
            obtain ⟨_, e, Hf, E, w3⟩ := w2
            have w4 := w3 [] H Hf E Ext.refl ArgsR.nil
            rw [h.K, h.mg] at w4
            exact w4
          | cons a r =>
            refine peImp (peCallG g4 h.gu rr (h.gl hc.1) g1 g2 g3 h.tk pa hc.2.1 (star_no (r2 a (by simp))) ?_) fun σ H Q w => ?_
            · have key : ∀ (l : List Expr), (∀ e ∈ l, isStar e = false) → (backTo pos (starEach l X.env)).any (·.1) = false := by
                intro l
                induction l with
                | nil => intro _; rfl
                | cons b bs ihl =>
                  intro hb
                  rw [star_no (hb b (by simp))]
                  show (backTo pos ((false, eval b X.env) :: starEach bs X.env)).any (·.1) = false
                  have := ihl (fun e he => hb e (by simp [he]))
                  unfold backTo at this ⊢
                  rw [List.map_cons, List.any_cons, this]
                  rfl
              exact key r (fun e he => r2 e (by simp [he]))
            · have w2 := rd_call w
              rw [h.K, h.mg] at w2
              exact w2
      · rw [if_neg hc] at q; cases q
theorem st_T (ih : Snd n) (h : XOk S X c) {e : Expr} {m : DM Bool} (q : cT (n + 1) S e = some m) : DT X c e m := by
  have tru : ∀ {e' : Expr}, (∀ whole, isTrue e' X.env whole = (do let v ← whole; standAt e'.pos; holding [v] (truthy v))) → (cO n S e').map mTru = some m → DT X c e' m := fun {e'} he q => by
    cases h1 : cO n S e' with
    | none => rw [h1] at q; cases q
    | some o =>
      rw [h1] at q
      cases q
      exact dt_tru h.K (ih.O S X c e' o h h1) he
  unfold cT at q
  split at q
  · exact dt_of_dw (ih.Ta S X c _ m _ h q)
  · exact dt_of_dw (ih.To S X c _ m _ h q)
  · rename_i a p
    cases h1 : cT n S a with
    | none => rw [h1] at q; cases q
    | some k =>
      rw [h1] at q
      cases q
      exact dt_not (ih.T S X c a k h h1)
  · rename_i a op b p
    cases h0 : gCmpOp op with
    | none => simp only [h0] at q; cases q
    | some g =>
      cases h1 : cO n S a with
      | none => simp only [h0, h1] at q; cases q
      | some oa =>
        cases h2 : cO n S b with
        | none => simp only [h0, h1, h2] at q; cases q
        | some ob =>
          simp only [h0, h1, h2] at q
          cases hs : isSet b with
          | true => rw [hs, if_pos rfl] at q; cases q
          | false =>
            rw [hs, if_neg Bool.false_ne_true] at q
            cases q
            obtain ⟨r, g1, g2⟩ := cmpop_ok h h0
            exact dt_cmp g1 g2 (ih.O S X c a oa h h1) (ih.O S X c b ob h h2) (mark_no hs)
  · rename_i a op op' b d p
    cases h0 : gCmpOp op with
    | none => simp only [h0] at q; cases q
    | some g =>
      cases h0' : gCmpOp op' with
      | none => simp only [h0, h0'] at q; cases q
      | some g' =>
        cases h1 : cO n S a with
        | none => simp only [h0, h0', h1] at q; cases q
        | some oa =>
          cases h2 : cO n S b with
          | none => simp only [h0, h0', h1, h2] at q; cases q
          | some ob =>
            cases h3 : cO n S d with
            | none => simp only [h0, h0', h1, h2, h3] at q; cases q
            | some od =>
              simp only [h0, h0', h1, h2, h3] at q
              cases hs : isSet d with
              | true => rw [hs, if_pos rfl] at q; cases q
              | false =>
                rw [hs, if_neg Bool.false_ne_true] at q
                cases q
                obtain ⟨r, g1, g2⟩ := cmpop_ok h h0
                obtain ⟨r', g1', g2'⟩ := cmpop_ok h h0'
                exact dt_chain g1 g1' g2 g2' (ih.O S X c a oa h h1) (ih.O S X c b ob h h2) (ih.O S X c d od h h3) (mark_no hs)
  · exact tru (fun _ => rfl) q
  · exact tru (fun _ => rfl) q
  · exact tru (fun _ => rfl) q
  · exact tru (fun _ => rfl) q
  · exact tru (fun _ => rfl) q
  · cases q
end
end DL

/-! DL14: the compiler of expressions is sound: all of it. -/
namespace DL
open PySem PySem.Spec PyProof.Rows L2
variable {T : Tb}
section
variable {n : Nat} {S : Sc} {X : Cx} {c : Cc}
theorem dl_const {X : Cx} {c : Cc} {e : Expr} {v : V} {d : D} (h : PE X e (tC v)) (r : ∀ H, Dr c.K H v d) : DE X c e (mC d) := peImp h fun σ H Q q => rd_c r q
theorem st_name (h : XOk S X c) {x : Str} {p : Pos} {m : DM Val} (q : (match S.slot x with | some i => some (mV S.L i) | none => (S.glob x).map mC) = some m) : DE X c (.Name x p) m := by
  cases h1 : S.slot x with
  | some i =>
    rw [h1] at q
    cases q
    exact peImp (h.slotE h1) fun σ H Q w => rd_v (by rw [h.L]; exact w)
  | none =>
    rw [h1] at q
    dsimp only at q
    cases h2 : S.glob x with
    | none => rw [h2] at q; cases q
    | some d =>
      rw [h2] at q
      cases q
      exact h.globE h2
theorem lamArg_ok {args : List Expr} {body : Expr} {scope : Scope} (h : lamArg args = some (body, scope)) : ∃ lpos params, args = [.Lambda params body scope lpos] ∧ noPars params = true := by
  unfold lamArg at h
  split at h
  · rename_i params b sc lpos
    by_cases hp : noPars params = true
    · rw [if_pos hp] at h
      cases h
      exact ⟨lpos, params, rfl, hp⟩
    · rw [if_neg hp] at h; cases h
  · cases h
/-- a comprehension's parts -/
structure LcP (X : Cx) (c : Cc) (elt tg iter : Expr) (ifs : List Expr) (scope : Scope) (m : DM Val) : Prop where
  ex : ∃ (wi : TI) (t : CT) (cond : DM Bool) (me : DM Val) (own : List (Str × Nat)), own.map (·.2) = t.is ∧ BlkOk X.N X.env.scope scope own ∧ PI X tg iter wi ∧
    (∀ (s : Shared) (H : Hp) (C : Addr) (cl : List (Str × Addr)) (fp : List Addr), PG (X.blk s H scope (compEnvC scope cl C X.env) fp) tg (gCT X.K t)) ∧
    (∀ (s : Shared) (H : Hp) (C : Addr) (cl : List (Str × Addr)) (fp : List Addr), PTs (X.blk s H scope (compEnvC scope cl C X.env) fp) ifs (tR c.quiet rB cond)) ∧
    (∀ (s : Shared) (H : Hp) (C : Addr) (cl : List (Str × Addr)) (fp : List Addr), PE (X.blk s H scope (compEnvC scope cl C X.env) fp) elt (tR c.quiet (rD c.quiet) (mFz me))) ∧ (∀ x, foldedSetIterable iter X.env x = pure x) ∧
    ∀ σ H Q, tR c (rV c) m σ H Q → tLc wi (gCT X.K t) (tR c.quiet rB cond) (tR c.quiet (rD c.quiet) (mFz me)) t.is σ H Q
theorem lc_parts (ih : Snd n) (h : XOk S X c) {elt tg iter : Expr} {ifs : List Expr} {asy : Int} {scope : Scope} {m : DM Val}
    (q : (match cCT (S.inner scope (.nm 0)) tg with
      | some t => if (asy == 0) = true ∧ blkC S.N S.sc scope (ownOf (S.inner scope (.nm 0)) tg) = true ∧ (t.is.all fun i => decide (S.L ≤ i)) = true ∧ isSet iter = false then
          match cIfs n (S.inner scope t) ifs, cE n (S.inner scope t) elt with
          | some cond, some m => match iterSlot S iter with
            | some i => some (mCompO S.L i t cond (mFz m))
            | none => (cI n S iter).map fun it => mComp it t cond (mFz m)
          | _, _ => none
        else none
      | none => none) = some m) : asy = 0 ∧ LcP X c elt tg iter ifs scope m := by
  cases h1 : cCT (S.inner scope (.nm 0)) tg with
  | none => simp only [h1] at q; cases q
  | some t =>
    simp only [h1] at q
    by_cases hc : (asy == 0) = true ∧ blkC S.N S.sc scope (ownOf (S.inner scope (.nm 0)) tg) = true ∧ (t.is.all fun i => decide (S.L ≤ i)) = true ∧ isSet iter = false
    · rw [if_pos hc] at q
      obtain ⟨c1, c2, c3, c4⟩ := hc
      cases h3 : cIfs n (S.inner scope t) ifs with
      | none => simp only [h3] at q; cases q
      | some cond =>
        cases h4 : cE n (S.inner scope t) elt with
        | none => simp only [h3, h4] at q; cases q
        | some me =>
          simp only [h3, h4] at q
          have ok : BlkOk X.N X.env.scope scope (ownOf (S.inner scope (.nm 0)) tg) := by
            rw [h.N, h.sc]
            exact blkOk_by c2
          have hv : ∀ v ∈ t.is, c.L ≤ v := fun v hv => by
            rw [h.L]
            exact of_decide_eq_true (List.all_eq_true.mp c3 v hv)
          have fin : ∀ wi, PI X tg iter wi → (∀ σ H Q, tR c (rV c) m σ H Q → tLc wi (gCT X.K t) (tR c.quiet rB cond) (tR c.quiet (rD c.quiet) (mFz me)) t.is σ H Q) → LcP X c elt tg iter ifs scope m := fun wi hi hw =>
            ⟨wi, t, cond, me, ownOf (S.inner scope (.nm 0)) tg, own_is h1, ok, hi, fun s H C cl fp => ct_pg (inner_ok h ok (.nm 0) s H C cl fp) h1,
              fun s H C cl fp => ih.If _ _ _ ifs cond (inner_ok h ok t s H C cl fp) h3, fun s H C cl fp => dd_fz (ih.E _ _ _ elt me (inner_ok h ok t s H C cl fp) h4), fold_no c4, hw⟩
          refine ⟨eq_of_beq c1, ?_⟩
          cases h5 : iterSlot S iter with
          | some i =>
            rw [h5] at q
            cases q
            cases iter with
            | Name x p =>
              exact fin _ (di_own h.K (h.slotE h5)) fun σ H Q w => by
                rw [← h.K]
                exact rd_compO hv (by rw [h.L]; exact w)
            | _ => cases h5
          | none =>
            rw [h5] at q
            dsimp only at q
            cases h2 : cI n S iter with
            | none => rw [h2] at q; cases q
            | some it =>
              rw [h2] at q
              cases q
              exact fin _ (ih.I S X c iter it tg h h2) fun σ H Q w => by
                rw [← h.K]
                exact rd_comp hv w
    · rw [if_neg hc] at q; cases q
theorem st_lc (ih : Snd n) (h : XOk S X c) {elt : Expr} {g : Comprehension} {scope : Scope} {pos : Pos} {m : DM Val}
    (q : (match cCT (S.inner scope (.nm 0)) g.target with
      | some t => if (g.is_async == 0) = true ∧ blkC S.N S.sc scope (ownOf (S.inner scope (.nm 0)) g.target) = true ∧ (t.is.all fun i => decide (S.L ≤ i)) = true ∧ isSet g.iter = false then
          match cIfs n (S.inner scope t) g.ifs, cE n (S.inner scope t) elt with
          | some cond, some m => match iterSlot S g.iter with
            | some i => some (mCompO S.L i t cond (mFz m))
            | none => (cI n S g.iter).map fun it => mComp it t cond (mFz m)
          | _, _ => none
        else none
      | none => none) = some m) : DE X c (.ListComp elt [g] scope pos) m := by
  obtain ⟨tg, iter, ifs, asy⟩ := g
  dsimp only at q
  obtain ⟨e, P⟩ := lc_parts (elt := elt) (tg := tg) (iter := iter) (ifs := ifs) (asy := asy) (scope := scope) (m := m) ih h q
  subst e
  obtain ⟨wi, t, cond, me, own, vs, ok, hi, hg, ht, he, hs, hw⟩ := P.ex
  refine peImp (pe_lc (own := own) h.calm (by rw [h.N]; exact h.nd) hi ok hg ht he hs) fun σ H Q w => ?_
  rw [vs]
  exact hw σ H Q w
/-- x = [..] on one line -/
theorem st_setLc (ih : Snd n) (h : XOk S X c) {elt : Expr} {g : Comprehension} {scope : Scope} {pos py spos : Pos} {y : Str} {i : Nat} {m : DM Val} (q : cE (n + 1) S (.ListComp elt [g] scope pos) = some m) (hy : S.put y = some i)
    (hk : S.sc.kind = .function) (hl : S.kd y = some .local) (hln : (py.line == pos.line) = true) (ha : (scope.names.any fun (n, k) => n == y && (k == .local || k == .cell)) = false) :
    DS X c (.Assign [.Name y py] (.ListComp elt [g] scope pos) spos) (sAsg c.L m (.nm i)) := by
  obtain ⟨tg, iter, ifs, asy⟩ := g
  unfold cE at q
  dsimp only at q
  obtain ⟨e, P⟩ := lc_parts (elt := elt) (tg := tg) (iter := iter) (ifs := ifs) (asy := asy) (scope := scope) (m := m) ih h q
  subst e
  obtain ⟨wi, t, cond, me, own, vs, ok, hi, hg, ht, he, hs, hw⟩ := P.ex
  have hl' : X.env.scope.names.lookup y = some .local := by rw [h.sc]; exact hl
  have hyN : X.N[i]? = some y := by
    unfold Sc.put at hy
    by_cases z : (S.kd y = some .local ∨ S.kd y = some .cell) ∧ y ∈ S.own
    · rw [if_pos z] at hy
      obtain ⟨_, h2⟩ := ixAt_ok hy
      rw [h.N]
      simpa using h2
    · rw [if_neg z] at hy; cases hy
  refine psImp (ps_setLc (own := own) h.calm (by rw [h.N]; exact h.nd) hyN hl' (sw_true (by rw [h.sc]; exact hk) hl' hln ha) hi ok hg ht he hs) fun D σ H w => ?_
  obtain ⟨e, Hf, E, w⟩ := rd_asg w
  rw [vs]
  exact hw σ H _ ⟨e, Hf, E, w.mono fun x H1 z => rd_gName z⟩
theorem st_E (ih : Snd n) (h : XOk S X c) {e : Expr} {m : DM Val} (q : cE (n + 1) S e = some m) : DE X c e m := by
  unfold cE at q
  split at q
  · cases q; exact dl_const pe_int fun H => Dr.int _
  · cases q; exact dl_const pe_str fun H => Dr.str _
  · cases q; exact dl_const pe_bl fun H => Dr.bl _
  · cases q; exact dl_const pe_non fun H => Dr.non
  · exact st_name h q
  · rename_i es k p
    by_cases hl : es.length ≤ 1000
    · rw [if_pos hl] at q
      cases h1 : cDs n S es with
      | none => rw [h1] at q; cases q
      | some ms =>
        rw [h1] at q
        cases q
        obtain ⟨g1, g2⟩ := ih.Ds S X c es ms h h1
        exact de_tup g1 (len_ok (by omega))
    · rw [if_neg hl] at q; cases q
  · rename_i es p
    by_cases hl : es.length ≤ 1000
    · rw [if_pos hl] at q
      cases h1 : cDs n S es with
      | none => rw [h1] at q; cases q
      | some ms =>
        rw [h1] at q
        cases q
        obtain ⟨g1, g2⟩ := ih.Ds S X c es ms h h1
        exact de_lst g1 (len_ok (by omega))
    · rw [if_neg hl] at q; cases q
  · cases q; exact de_dict0
  · rename_i a op b p
    cases h0 : gBin op with
    | none => simp only [h0] at q; cases q
    | some g =>
      cases h1 : cO n S a with
      | none => simp only [h0, h1] at q; cases q
      | some oa =>
        cases h2 : cO n S b with
        | none => simp only [h0, h1, h2] at q; cases q
        | some ob =>
          simp only [h0, h1, h2] at q
          cases q
          exact bin_ok h h0 (ih.O S X c a oa h h1) (ih.O S X c b ob h h2)
  · rename_i a p
    cases h1 : cO n S a with
    | none => rw [h1] at q; cases q
    | some oa =>
      rw [h1] at q
      cases q
      exact de_un un_neg op_gNeg (ih.O S X c a oa h h1)
  · rename_i a p
    cases h1 : cE n S a with
    | none => rw [h1] at q; cases q
    | some k =>
      rw [h1] at q
      cases q
      exact de_not (ih.E S X c a k h h1)
  · exact ih.An S X c _ m _ h q
  · exact ih.Or S X c _ m _ h q
  · rename_i a op b p
    cases h0 : gCmpOp op with
    | none => simp only [h0] at q; cases q
    | some g =>
      cases h1 : cO n S a with
      | none => simp only [h0, h1] at q; cases q
      | some oa =>
        cases h2 : cO n S b with
        | none => simp only [h0, h1, h2] at q; cases q
        | some ob =>
          simp only [h0, h1, h2] at q
          cases hs : isSet b with
          | true => rw [hs, if_pos rfl] at q; cases q
          | false =>
            rw [hs, if_neg Bool.false_ne_true] at q
            cases q
            obtain ⟨r, g1, g2⟩ := cmpop_ok h h0
            exact de_cmp g1 g2 (ih.O S X c a oa h h1) (ih.O S X c b ob h h2) (mark_no hs)
  · rename_i a op op' b d p
    cases h0 : gCmpOp op with
    | none => simp only [h0] at q; cases q
    | some g =>
      cases h0' : gCmpOp op' with
      | none => simp only [h0, h0'] at q; cases q
      | some g' =>
        cases h1 : cO n S a with
        | none => simp only [h0, h0', h1] at q; cases q
        | some oa =>
          cases h2 : cO n S b with
          | none => simp only [h0, h0', h1, h2] at q; cases q
          | some ob =>
            cases h3 : cO n S d with
            | none => simp only [h0, h0', h1, h2, h3] at q; cases q
            | some od =>
              simp only [h0, h0', h1, h2, h3] at q
              cases hs : isSet d with
              | true => rw [hs, if_pos rfl] at q; cases q
              | false =>
                rw [hs, if_neg Bool.false_ne_true] at q
                cases q
                obtain ⟨r, g1, g2⟩ := cmpop_ok h h0
                obtain ⟨r', g1', g2'⟩ := cmpop_ok h h0'
                exact de_chain g1 g1' g2 g2' (ih.O S X c a oa h h1) (ih.O S X c b ob h h2) (ih.O S X c d od h h3) (mark_no hs)
  · rename_i t a b p
    cases h1 : cT n S t with
    | none => simp only [h1] at q; cases q
    | some mt =>
      cases h2 : cE n S a with
      | none => simp only [h1, h2] at q; cases q
      | some ma =>
        cases h3 : cE n S b with
        | none => simp only [h1, h2, h3] at q; cases q
        | some mb =>
          simp only [h1, h2, h3] at q
          cases q
          exact de_if (ih.T S X c t mt h h1) (ih.E S X c a ma h h2) (ih.E S X c b mb h h3)
  · rename_i a lo hi p2 p
    cases h1 : cO n S a with
    | none => simp only [h1] at q; cases q
    | some o =>
      cases h2 : cP n S lo with
      | none => simp only [h1, h2] at q; cases q
      | some l =>
        cases h3 : cP n S hi with
        | none => simp only [h1, h2, h3] at q; cases q
        | some hh =>
          simp only [h1, h2, h3] at q
          cases q
          exact de_sl h.K (ih.O S X c a o h h1) (ih.P S X c lo l h h2) (ih.P S X c hi hh h h3)
  · rename_i a b p hne
    cases h1 : cO n S a with
    | none => simp only [h1] at q; cases q
    | some oa =>
      cases h2 : cO n S b with
      | none => simp only [h1, h2] at q; cases q
      | some ob =>
        simp only [h1, h2] at q
        cases hs : isSlice b with
        | true => rw [hs, if_pos rfl] at q; cases q
        | false =>
          rw [hs, if_neg Bool.false_ne_true] at q
          cases q
          exact de_ix (IxR.or ix_list ix_tup) (by rw [h.K]; exact op_gIx) (ih.O S X c a oa h h1) (ih.O S X c b ob h h2) (plain_ix hs)
  · rename_i f p args pos
    cases hl : lamArg args with
    | none =>
      simp only [hl] at q
      exact ih.call S X c _ _ m _ _ h q
    | some bs =>
      obtain ⟨body, scope⟩ := bs
      simp only [hl] at q
      cases h1 : S.Hs.lookup f with
      | none => simp only [h1] at q; cases q
      | some hd =>
        cases h2 : S.tb with
        | none => simp only [h1, h2] at q; cases q
        | some qq =>
          simp only [h1, h2] at q
          by_cases hc : S.kd f = some .globalImplicit ∧ (f == ("__debug__" : Str)) = false ∧ 2 ≤ S.lv ∧ LamX.lamSB S.sc scope = true
          · rw [if_pos hc] at q
            cases h3 : cE n (S.lam scope) body with
            | none => rw [h3] at q; cases q
            | some k =>
              rw [h3] at q
              cases q
              obtain ⟨lpos, params, rfl, hp⟩ := lamArg_ok hl
              have hrm : Room (S.lv - 2 + 2) X.A := h.room.mono (by omega)
              refine de_heard h.K h.mg h.gu (h.gl hc.1) hc.2.1 (h.hrd f hd h1) (h.lam qq h2) hrm (by rw [h.sc]; exact LamX.lamS_by hc.2.2.2) hp fun A outer s H E f c' gA hr => ih.E _ _ _ body k (lam_ok h gA hr) h3
          · rw [if_neg hc] at q; cases q
  · rename_i f p kws pos _
    cases h1 : cKws n S kws with
    | none => simp only [h1] at q; cases q
    | some z =>
      obtain ⟨xs, ms⟩ := z
      cases h2 : S.T.lookup f with
      | none => simp only [h1, h2] at q; cases q
      | some fn =>
        simp only [h1, h2] at q
        by_cases hc : S.kd f = some .globalImplicit ∧ (f == ("__debug__" : Str)) = false ∧ fn.lv ≤ S.lv ∧ xs ∈ fn.ks
        · rw [if_pos hc] at q
          cases q
          obtain ⟨fa, fd, g1, g2, g3, g5, g4⟩ := h.fns f fn h2
          obtain ⟨k1, k2⟩ := ih.Kw S X c kws xs ms h h1
          obtain ⟨r1, r2, r3⟩ := k2 pos
          refine peImp (peCallKw g4 h.gu (h.room.mono hc.2.2.1) (h.gl hc.1) g1 g2 (g5 xs hc.2.2.2) h.tk k1 r1 r2 (by rw [r3]; rfl) hc.2.1) fun σ H Q w => ?_
          have w2 := rd_callK w
          rw [h.K, h.mg] at w2
          exact w2
        · rw [if_neg hc] at q; cases q
  · rename_i x px mm apos a cpos
    cases h1 : S.slot x with
    | none => simp only [h1] at q; cases q
    | some i =>
      cases h2 : cE n S a with
      | none => simp only [h1, h2] at q; cases q
      | some ma =>
        simp only [h1, h2] at q
        by_cases hc : mm = ("append" : Str) ∧ (apos.endLine == cpos.line) = true ∧ isStar a = false
        · rw [if_pos hc] at q
          cases q
          obtain ⟨rfl, hl, hs⟩ := hc
          exact de_app h.K (h.slotE h1) (dd_fz (ih.E S X c a ma h h2)) (star_no hs) hl
        · rw [if_neg hc] at q; cases q
  · exact st_lc ih h q
  · cases q
theorem snd_all : ∀ n, Snd n
  | 0 => snd_zero
  | n + 1 => by
    have ih := snd_all n
    exact ⟨fun S X c e m h q => st_E ih h q, fun S X c f args m p pos h q => st_call ih h q, fun S X c kws xs ms h q => st_Kw ih h q, fun S X c e m h q => st_O ih h q, fun S X c es ms h q => st_Ds ih h q, fun S X c es m pos h q => st_An ih h q, fun S X c es m pos h q => st_Or ih h q,
      fun S X c e m h q => st_P ih h q, fun S X c e m tg h q => st_I ih h q, fun S X c e m h q => st_If ih h q, fun S X c e m h q => st_T ih h q, fun S X c es m pos h q => st_Ta ih h q, fun S X c es m pos h q => st_To ih h q⟩
end
end DL

/-! DL15: statements compiled; raise; a def by its compiled body. -/
namespace DL
open PySem PySem.Spec PyProof.Rows L2
variable {T : Tb}

/-! ### raise -/
def sRaise (x f : Str) (m : DM D) : SM := fun e => (m e).stm fun d e1 => .exc ⟨x, [(f, d)]⟩ e1
theorem ds_raise {S : Sc} {X : Cx} {c : Cc} (h : XOk S X c) {x f : Str} (F : ExcFact X S.lv x f) (hg : Gl X x) (hd : (x == ("__debug__" : Str)) = false) {a : Expr} {m : DM D} {p q pos : Pos} (ha : DD X c a m) (hs : isStar a = false) :
    DS X c (.Raise (some (.Call (.Name x p) [a] [] q)) none pos) (sRaise x f m) := by
  obtain ⟨C, fI, k, fd, ps, h1, h2, h3, h4, h5, h6, h7⟩ := F.ex
  have st : starEach [a] X.env = [(false, eval a X.env)] := star_no hs
  refine psImp (ps_raise h.calm h.tk (pmk_oex h2 h3 h4 h5 (h.room.mono h6) h7 .nil pass0 hg h1 (pa_cons ha pa_nil st) hd st rfl)) fun D σ H w => ?_
  obtain ⟨e, Hf, E, w⟩ := w
  refine ⟨e, Hf, E, Post.mono (PostS.val (rel := rD c) w) fun v H1 w1 => ?_⟩
  obtain ⟨d, e1, Hf1, E1, X1, r1, w1⟩ := w1
  refine ⟨by show (1 : Nat) ≤ 1000; omega, fun ad had => ⟨ad, v, rfl, upd_same, fun dx hdx hne => ⟨rfl, dx, [(f, v)], upd_same, ?_, ?_, ?_⟩⟩⟩
  · rw [upd_ne hne, upd_same]
  · rw [upd_ne hne] at hdx
    exact hdx
  · have hdx' : H1 dx = none := by
      rw [upd_ne hne] at hdx
      exact hdx
    have eq : upd (del (upd (upd (upd H1 ad (exo ad C none)) dx (exd dx [(f, v)])) ad (exo ad C (some dx))) ad) dx (.xd [(f, v)]) = upd H1 dx (.xd [(f, v)]) := by
      funext b
      by_cases hb : b = dx
      · subst hb
        rw [upd_same, upd_same]
      · rw [upd_ne hb, upd_ne hb]
        by_cases ha : b = ad
        · subst ha
          rw [del_same, had]
        · rw [del_ne ha, upd_ne ha, upd_ne hb, upd_ne ha]
    rw [eq]
    obtain ⟨E2, X2, f2⟩ := E1.laid (L := c.L) (.xd [(f, v)]) hdx'
    exact w1 (.ref C) (some dx) σ _ _ E2 (X1.trans X2) ⟨C, rfl, by rw [h.mg]; exact h1, dx, [(f, v)], rfl, upd_same, .cons ⟨rfl, r1⟩ .nil⟩

/-- a statement that is not reached -/
theorem ds_bad {X : Cx} {c : Cc} {st : Stmt} : DS X c st fun _ => .bad := ⟨fun _ _ _ _ _ _ q => by
  obtain ⟨e, Hf, E, q⟩ := q
  exact q.elim⟩
/-! ### the compiler of statements -/
structure XOkS (S : Sc) (X : Cx) (c : Cc) : Prop extends XOk S X c where
  pass : PassesOwn (model X.prog X.w) X.A X.env X.xe
  exs : ∀ x f, S.Xs.lookup x = some f → ExcFact X S.lv x f
def isComp : Expr → Bool
  | .ListComp _ _ _ _ => true
  | .SetComp _ _ _ _ => true
  | .DictComp _ _ _ _ _ => true
  | _ => false
def isTupE : Expr → Bool
  | .Tuple _ _ _ => true
  | _ => false
def isSeqE : Expr → Bool
  | .Tuple _ _ _ => true
  | .List _ _ => true
  | _ => false
theorem swap_no {e : Expr} {t : Option Expr} {l : Nat} {env : PySem.Env} (h : isComp e = false) : swapsWith e t l env = pure false := by
  cases e <;> first | rfl | (cases h; done)
theorem stores_no {tg e : Expr} {env : PySem.Env} (h : (isSeqE tg && isTupE e) = false) : swappedStores [tg] e env = pure none := by
  unfold swappedStores
  cases tg <;> first | rfl | (cases e <;> first | rfl | (cases h; done))
mutual
def cTg : Nat → Sc → Expr → Option Tgt
  | 0, _, _ => none
  | n + 1, S, e => match e with
    | .Name x _ => (S.put x).map .nm
    | .Subscript (.Name x _) ie _ => match S.slot x, cE n S ie with
      | some i, some m => if isSlice ie then none else some (.sub i (mFz m))
      | _, _ => none
    | .Tuple es _ _ => (cTgs n S es).map .tup
    | _ => none
def cTgs : Nat → Sc → List Expr → Option Tgts
  | 0, _, _ => none
  | n + 1, S, es => match es with
    | [] => some .nil
    | e :: r => if isStar e then none else match cTg n S e, cTgs n S r with
      | some t, some ts => some (.cons t ts)
      | _, _ => none
end
theorem sub_assign {x : Str} {p pos : Pos} {ie : Expr} {env : PySem.Env} (h : isSlice ie = false) (v : Value) : assign (.Subscript (.Name x p) ie pos) env v = (do let a ← holding [v] (eval (.Name x p) env); let b ← holding [v, a] (eval ie env); standAt pos; holding [v, a, b] (setItem a b v); release [v, a, b] []) := by
  cases ie <;> first | rfl | (cases h; done)
theorem asg_no {e : Expr} {r : List Expr} {env : PySem.Env} (h : isStar e = false) : assignEach (e :: r) env = (false, assign e env) :: assignEach r env := by
  cases e <;> first | rfl | (cases h; done)
theorem tg_ok {S : Sc} {X : Cx} {c : Cc} (h : XOk S X c) : ∀ n, (∀ e t, cTg n S e = some t → DG X c e t) ∧ (∀ es ts, cTgs n S es = some ts → DGs X c es ts ∧ (assignEach es X.env).length = ts.len ∧ (assignEach es X.env).findIdx? (·.1) = none)
  | 0 => ⟨fun e t q => by simp [cTg] at q, fun es ts q => by simp [cTgs] at q⟩
  | n + 1 => by
    obtain ⟨ih1, ih2⟩ := tg_ok h n
    refine ⟨fun e t q => ?_, fun es ts q => ?_⟩
    · unfold cTg at q
      split at q
      · rename_i x p
        cases h1 : S.put x with
        | none => rw [h1] at q; cases q
        | some i =>
          rw [h1] at q
          cases q
          exact dg_nm (h.putE h1)
      · rename_i x p ie pos
        cases h1 : S.slot x with
        | none => simp only [h1] at q; cases q
        | some i =>
          cases h2 : cE n S ie with
          | none => simp only [h1, h2] at q; cases q
          | some m =>
            simp only [h1, h2] at q
            cases hs : isSlice ie with
            | true => rw [hs, if_pos rfl] at q; cases q
            | false =>
              rw [hs, if_neg Bool.false_ne_true] at q
              cases q
              exact dg_sub (h.slotE h1) (dd_fz ((snd_all n).E S X c ie m h h2)) (sub_assign hs)
      · rename_i es k p
        cases h1 : cTgs n S es with
        | none => rw [h1] at q; cases q
        | some ts =>
          rw [h1] at q
          cases q
          obtain ⟨g1, g2, g3⟩ := ih2 es ts h1
          exact dg_tup h.K h.calm g1 g2 g3
      · cases q
    · unfold cTgs at q
      cases es with
      | nil => cases q; exact ⟨dgs_nil, rfl, rfl⟩
      | cons e r =>
        dsimp only at q
        cases hs : isStar e with
        | true => rw [hs, if_pos rfl] at q; cases q
        | false =>
          rw [hs, if_neg Bool.false_ne_true] at q
          cases h1 : cTg n S e with
          | none => simp only [h1] at q; cases q
          | some t =>
            cases h2 : cTgs n S r with
            | none => simp only [h1, h2] at q; cases q
            | some l =>
              simp only [h1, h2] at q
              cases q
              obtain ⟨g1, g2, g3⟩ := ih2 r l h2
              refine ⟨dgs_cons (ih1 e t h1) g1 (by rw [asg_no hs]; rfl), by rw [asg_no hs]; simp [g2, Tgts.len], ?_⟩
              rw [asg_no hs, List.findIdx?_cons]
              simp [g3]
def cVs (n : Nat) (S : Sc) : List Expr → Option (List (DM Val))
  | [] => some []
  | e :: r => if isStar e then none else match cE n S e, cVs n S r with
    | some m, some ms => some (m :: ms)
    | _, _ => none
theorem vs_ok {S : Sc} {X : Cx} {c : Cc} (h : XOk S X c) {n : Nat} : ∀ {es : List Expr} {ms : List (DM Val)}, cVs n S es = some ms → DVs X c es ms
  | [], ms, q => by cases q; exact dv_nil
  | e :: r, ms, q => by
    unfold cVs at q
    cases hs : isStar e with
    | true => rw [hs, if_pos rfl] at q; cases q
    | false =>
      rw [hs, if_neg Bool.false_ne_true] at q
      cases h1 : cE n S e with
      | none => simp only [h1] at q; cases q
      | some m =>
        cases h2 : cVs n S r with
        | none => simp only [h1, h2] at q; cases q
        | some k =>
          simp only [h1, h2] at q
          cases q
          exact dv_cons ((snd_all n).E S X c e m h h1) (vs_ok h h2) (star_no hs)
def namesPos : List Expr → Option (List (Str × Pos))
  | [] => some []
  | .Name x p :: r => (namesPos r).map ((x, p) :: ·)
  | _ :: _ => none
theorem names_pos : ∀ {es : List Expr} {xs : List (Str × Pos)}, namesPos es = some xs → es = xs.map fun y => Expr.Name y.1 y.2
  | [], _, h => by cases h; rfl
  | e :: r, xs, h => by
    cases e with
    | Name x p =>
      unfold namesPos at h
      cases h1 : namesPos r with
      | none => rw [h1] at h; cases h
      | some ys =>
        rw [h1] at h
        cases h
        rw [names_pos h1]
        rfl
    | _ => simp [namesPos] at h
theorem slots_at {S : Sc} : ∀ {xs : List Str} {is : List Nat}, slotsOf S xs = some is → Paired (fun x i => S.N[i]? = some x) xs is
  | [], is, h => by cases h; exact .nil
  | x :: r, is, h => by
    unfold slotsOf at h
    cases h1 : S.put x with
    | none => simp only [h1] at h; cases h
    | some i =>
      cases h2 : slotsOf S r with
      | none => simp only [h1, h2] at h; cases h
      | some l =>
        simp only [h1, h2] at h
        cases h
        refine .cons ?_ (slots_at h2)
        unfold Sc.put at h1
        by_cases z : (S.kd x = some .local ∨ S.kd x = some .cell) ∧ x ∈ S.own
        · rw [if_pos z] at h1
          obtain ⟨_, h4⟩ := ixAt_ok h1
          simpa using h4
        · rw [if_neg z] at h1; cases h1
def cPar (n : Nat) (S : Sc) (ts vs : List Expr) : Option SM := match namesPos ts with
  | some xs => match slotsOf S (xs.map (·.1)), cVs n S vs with
    | some is, some ms => if swC S.sc xs vs = true ∧ is.Nodup then some (sPar S.L is ms) else none
    | _, _ => none
  | none => none
theorem par_ok {S : Sc} {X : Cx} {c : Cc} (h : XOk S X c) {n : Nat} {ts vs : List Expr} {m : SM} (q : cPar n S ts vs = some m) (kt k2 : Nat) (pt pt2 pos : Pos) : DS X c (.Assign [.Tuple ts kt pt] (.Tuple vs k2 pt2) pos) m := by
  unfold cPar at q
  cases h1 : namesPos ts with
  | none => simp only [h1] at q; cases q
  | some xs =>
    simp only [h1] at q
    cases h2 : slotsOf S (xs.map (·.1)) with
    | none => simp only [h2] at q; cases q
    | some is =>
      cases h3 : cVs n S vs with
      | none => simp only [h2, h3] at q; cases q
      | some ms =>
        simp only [h2, h3] at q
        by_cases hc : swC S.sc xs vs = true ∧ is.Nodup
        · rw [if_pos hc] at q
          cases q
          have hv := vs_ok h h3
          have sw := sw_by (X := X) h.sc (kt := kt) (k2 := k2) (pt := pt) (pt2 := pt2) hc.1
          have at_ := slots_at h2
          have hts := names_pos h1
          subst hts
          have hcc := hc.1
          unfold swC at hcc
          simp only [Bool.and_eq_true] at hcc
          obtain ⟨⟨⟨⟨⟨⟨⟨c1, c2⟩, c3⟩, c4⟩, c5⟩, c6⟩, c7⟩, c8⟩ := hcc
          have loc : ∀ y ∈ xs, X.env.scope.names.lookup y.1 = some .local := fun y hy => by
            have z := List.all_eq_true.mp c5 y hy
            simp only [Bool.and_eq_true] at z
            rw [h.sc]
            exact eq_of_beq z.1
          have hNd : X.N.Nodup := by rw [h.N]; exact h.nd
          rw [← h.N] at at_
          rw [← h.L]
          have hn := hc.2
          match xs, at_, vs, c1, c2, loc, sw, hv, hn with
          | [(x, px), (y, py)], .cons a1 (.cons a2 .nil), [a, b], _, _, loc, sw, hv, hn =>
            have n12 := (List.nodup_cons.mp hn).1
            exact ds_par2 h.calm hNd a1 a2 (fun z => n12 (by rw [z]; simp)) (loc _ (by simp)) (loc _ (by simp)) hv sw
          | [(x, px), (y, py), (z, pz)], .cons a1 (.cons a2 (.cons a3 .nil)), [a, b, d], _, _, loc, sw, hv, hn =>
            have n1 := (List.nodup_cons.mp hn).1
            have n2 := (List.nodup_cons.mp (List.nodup_cons.mp hn).2).1
            exact ds_par3 h.calm hNd a1 a2 a3 (fun z => n1 (by rw [z]; simp)) (fun z => n1 (by rw [z]; simp)) (fun z => n2 (by rw [z]; simp)) (loc _ (by simp)) (loc _ (by simp)) (loc _ (by simp)) hv sw
          | [], _, _, c1, _, _, _, _, _ => cases c1
          | [_], _, _, c1, _, _, _, _, _ => cases c1
          | _ :: _ :: _ :: _ :: _, _, _, c1, _, _, _, _, _ => simp at c1
          | [_, _], _, [], _, c2, _, _, _, _ => cases c2
          | [_, _], _, [_], _, c2, _, _, _, _ => cases c2
          | [_, _], _, _ :: _ :: _ :: _, _, c2, _, _, _, _ => simp at c2
          | [_, _, _], _, [], _, c2, _, _, _, _ => cases c2
          | [_, _, _], _, [_], _, c2, _, _, _, _ => cases c2
          | [_, _, _], _, [_, _], _, c2, _, _, _, _ => cases c2
          | [_, _, _], _, _ :: _ :: _ :: _ :: _, _, c2, _, _, _, _ => simp at c2
        · rw [if_neg hc] at q; cases q
def cAsg (n : Nat) (S : Sc) (tg e : Expr) : Option SM := match tg, e with
  | .Tuple ts _ _, .Tuple vs _ _ => cPar n S ts vs
  | .Name y py, .ListComp elt [g] scope pos => match S.put y, cE (n + 1) S (.ListComp elt [g] scope pos) with
    | some i, some m => if S.sc.kind = .function ∧ S.kd y = some .local ∧ (py.line == pos.line) = true ∧ (scope.names.any fun (n, k) => n == y && (k == .local || k == .cell)) = false then some (sAsg S.L m (.nm i)) else none
    | _, _ => none
  | tg, e => match cE n S e, cTg n S tg with
    | some m, some t => if isComp e || (isSeqE tg && isTupE e) || isStar tg then none else some (sAsg S.L m t)
    | _, _ => none
theorem asg_ok {S : Sc} {X : Cx} {c : Cc} (h : XOk S X c) {n : Nat} {tg e : Expr} {m : SM} (q : cAsg n S tg e = some m) (pos : Pos) : DS X c (.Assign [tg] e pos) m := by
  unfold cAsg at q
  split at q
  · exact par_ok h q _ _ _ _ _
  · rename_i y py elt g scope lpos
    cases h1 : S.put y with
    | none => simp only [h1] at q; cases q
    | some i =>
      cases h2 : cE (n + 1) S (.ListComp elt [g] scope lpos) with
      | none => simp only [h1, h2] at q; cases q
      | some k =>
        simp only [h1, h2] at q
        by_cases hc : S.sc.kind = .function ∧ S.kd y = some .local ∧ (py.line == lpos.line) = true ∧ (scope.names.any fun (n, k) => n == y && (k == .local || k == .cell)) = false
        · rw [if_pos hc] at q
          cases q
          rw [← h.L]
          exact st_setLc (snd_all n) h h2 h1 hc.1 hc.2.1 hc.2.2.1 hc.2.2.2
        · rw [if_neg hc] at q; cases q
  · cases h1 : cE n S e with
    | none => simp only [h1] at q; cases q
    | some k =>
      cases h2 : cTg n S tg with
      | none => simp only [h1, h2] at q; cases q
      | some t =>
        simp only [h1, h2] at q
        by_cases hc : (isComp e || (isSeqE tg && isTupE e) || isStar tg) = true
        · rw [if_pos hc] at q; cases q
        · rw [if_neg hc] at q
          cases q
          have hc' : (isComp e || (isSeqE tg && isTupE e) || isStar tg) = false := by simpa using hc
          obtain ⟨hc1, hc2⟩ := Bool.or_eq_false_iff.mp hc'
          obtain ⟨hc3, hc4⟩ := Bool.or_eq_false_iff.mp hc1
          rw [← h.L]
          exact ds_asg ((snd_all n).E S X c e k h h1) ((tg_ok h n).1 tg t h2) (swap_no hc3) (stores_no hc4) (by rw [asg_no hc2]; rfl)
mutual
def cS : Nat → Sc → Stmt → Option SM
  | 0, _, _ => none
  | n + 1, S, st => match st with
    | .Return (some (.Name x p)) _ => match S.slot x with
      | some i => some (sRetV S.L i)
      | none => (cE n S (.Name x p)).map sRet
    | .Return (some e) _ => (cE n S e).map sRet
    | .Return none _ => some fun e => .rt (.fz .none) e
    | .Expr (.Constant (.str _) _ _) _ => some fun e => .nx e
    | .Expr e _ => if isComp e then none else (cE n S e).map sDrop
    | .Pass _ => some fun e => .nx e
    | .Break _ => some fun e => .brk e
    | .Continue _ => some fun e => .cnt e
    | .If t a b _ => match cT n S t, cSs n S a, cSs n S b with
      | some mt, some ma, some mb => some (sIf mt ma mb)
      | _, _, _ => none
    | .For tg iter body [] _ => match cI n S iter, cTg n S tg, cSs n S body with
      | some it, some t, some mb => if isSet iter then none else some (sFor S.L it t mb)
      | _, _, _ => none
    | .Assign [tg] e _ => cAsg n S tg e
    | .Raise (some (.Call (.Name x _) [a] [] _)) none _ => match S.Xs.lookup x with
      | some f => match cE n S a with
        | some m => if S.kd x = some .globalImplicit ∧ (x == ("__debug__" : Str)) = false ∧ isStar a = false then some (sRaise x f (mFz m)) else none
        | none => none
      | none => some fun _ => .bad
    | _ => none
def cSs : Nat → Sc → List Stmt → Option SM
  | 0, _, _ => none
  | n + 1, S, l => match l with
    | [] => some fun e => .nx e
    | st :: r => match cS n S st, cSs n S r with
      | some a, some b => some (sSeq a b)
      | _, _ => none
end
theorem s_ok {S : Sc} {X : Cx} {c : Cc} (h : XOkS S X c) : ∀ n, (∀ st m, cS n S st = some m → DS X c st m) ∧ (∀ l m, cSs n S l = some m → DSs X c l m)
  | 0 => ⟨fun e t q => by simp [cS] at q, fun es ts q => by simp [cSs] at q⟩
  | n + 1 => by
    obtain ⟨ih1, ih2⟩ := s_ok h n
    have hx := h.toXOk
    have ret : ∀ {e : Expr} {m : SM} {p : Pos}, (cE n S e).map sRet = some m → DS X c (.Return (some e) p) m := fun {e m p} q => by
      cases h1 : cE n S e with
      | none => rw [h1] at q; cases q
      | some k =>
        rw [h1] at q
        cases q
        exact ds_ret ((snd_all n).E S X c e k hx h1)
    refine ⟨fun st m q => ?_, fun l m q => ?_⟩
    · unfold cS at q
      split at q
      · rename_i x p pos
        cases h1 : S.slot x with
        | some i =>
          simp only [h1] at q
          cases q
          rw [← h.L]
          exact ds_retV (hx.slotE h1)
        | none =>
          simp only [h1] at q
          exact ret q
      · exact ret q
      · cases q; exact ds_ret0
      · cases q; exact ds_doc
      · rename_i e pos _
        cases hc : isComp e with
        | true => rw [hc, if_pos rfl] at q; cases q
        | false =>
          rw [hc, if_neg Bool.false_ne_true] at q
          cases h1 : cE n S e with
          | none => rw [h1] at q; cases q
          | some k =>
            rw [h1] at q
            cases q
            exact ds_expr ((snd_all n).E S X c e k hx h1) (swap_no hc)
      · cases q; exact ds_pass
      · cases q; exact ds_break
      · cases q; exact ds_continue
      · rename_i t a b pos
        cases h1 : cT n S t with
        | none => simp only [h1] at q; cases q
        | some mt =>
          cases h2 : cSs n S a with
          | none => simp only [h1, h2] at q; cases q
          | some ma =>
            cases h3 : cSs n S b with
            | none => simp only [h1, h2, h3] at q; cases q
            | some mb =>
              simp only [h1, h2, h3] at q
              cases q
              exact ds_if ((snd_all n).T S X c t mt hx h1) (ih2 a ma h2) (ih2 b mb h3)
      · rename_i tg iter body pos
        cases h1 : cI n S iter with
        | none => simp only [h1] at q; cases q
        | some it =>
          cases h2 : cTg n S tg with
          | none => simp only [h1, h2] at q; cases q
          | some t =>
            cases h3 : cSs n S body with
            | none => simp only [h1, h2, h3] at q; cases q
            | some mb =>
              simp only [h1, h2, h3] at q
              cases hs : isSet iter with
              | true => rw [hs, if_pos rfl] at q; cases q
              | false =>
                rw [hs, if_neg Bool.false_ne_true] at q
                cases q
                rw [← h.L]
                exact ds_for h.pass h.calm ((snd_all n).I S X c iter it tg hx h1) ((tg_ok hx n).1 tg t h2) (ih2 body mb h3) (fold_no hs)
      · exact asg_ok hx q _
      · rename_i x p a cp pos
        cases h1 : S.Xs.lookup x with
        | none =>
          simp only [h1] at q
          cases q
          exact ds_bad
        | some f =>
          cases h2 : cE n S a with
          | none => simp only [h1, h2] at q; cases q
          | some k =>
            simp only [h1, h2] at q
            by_cases hc : S.kd x = some .globalImplicit ∧ (x == ("__debug__" : Str)) = false ∧ isStar a = false
            · rw [if_pos hc] at q
              cases q
              exact ds_raise hx (h.exs x f h1) (hx.gl hc.1) hc.2.1 (dd_fz ((snd_all n).E S X c a k hx h2)) hc.2.2
            · rw [if_neg hc] at q; cases q
      · cases q
    · unfold cSs at q
      cases l with
      | nil => cases q; exact dss_nil
      | cons st r =>
        dsimp only at q
        cases h1 : cS n S st with
        | none => simp only [h1] at q; cases q
        | some a =>
          cases h2 : cSs n S r with
          | none => simp only [h1, h2] at q; cases q
          | some b =>
            simp only [h1, h2] at q
            cases q
            exact dss_cons (ih1 st a h1) (ih2 r b h2)
end DL

/-! DL16: a def keeps the contract of its compiled body; the law's call. -/
namespace DL
open PySem PySem.Spec PyProof.Rows L2
variable {T : Tb}

section
variable {P : Program} {w : World} {K : PySem.W.Frag} {mg : Str → Option Value} {base : Heap}
/-- a def (as the layer's rule tells it), where no guard stands -/
theorem FnG.of {k : Nat} {f : Addr} {name qual : Str} {params : Arguments} {body : List Stmt} {scope : Scope} {dV kV doc pm cdv ct oc : Value} {an od : Option Addr} {osl : Array (Option Value)} {N ps : List Str} {sp : Sp}
    (at_ : K.lookup f = some ⟨oc, od, .func (PySem.W.fnOf name qual params body scope dV kV doc pm an cdv ct), osl⟩) (code : PySem.W.codeIn K cdv qual = true) (sc : FnScope N ps scope) (len : ∀ vs H Q E, sp vs H Q E → vs.length = ps.length)
    (hb : ∀ (A : Around) (outer : List PySem.Env) (s : Shared) (H : Hp) (vs : List V) (Q : VK) (E : XK), A.guards = some [] → Room k (A.deeper (envOfC qual scope s.heap.objs.size f cdv)) → sp vs H Q E →
      ∃ t, PSs (cxOf (L2.CX P w) P w K mg base N qual scope f cdv A outer s H E) body t ∧ t { nx := fun _ H' => Q .non H', rt := Q } (start N vs) H) :
    FnG P w K mg base (k + 1) f (PySem.W.fnOf name qual params body scope dV kV doc pm an cdv ct) ps sp := by
  refine ⟨len, fun A outer s H args us vs Q E hg room e0 binds r prom => ?_⟩
  have hl := len _ _ _ _ prom
  have keep : ∀ b o, base.get? b = some o → s.heap.get? b = some o := fun b o e => (e0.bs b o e).1
  have inK : K.In s.heap := e0.mod.kin.keeps keep
  have lim := e0.mod.nolimit.keeps keep
  have kinds : ∀ y ∈ ps.zip us, scope.names.lookup y.1 = some .local ∨ (scope.names.lookup y.1 = some .cell ∧ ((cellsFrom (s.heap.objs.size + 1) scope.names []).lookup y.1).isSome = true) := fun y hy =>
    (sc.par y.1 (List.of_mem_zip hy).1).imp id fun q => ⟨q, PySem.W.cellsFrom_some _ _ _ (.inl q)⟩
  refine codeAny_call_function room.depth (inK _ _ at_) rfl sc.co sc.gen rfl (PySem.W.codeRec_of inK code) (binds _ _ _ _ (wpAny_newFunctionEnv_cells sc.kind kinds fun env he s1 x => ?_))
  subst he
  refine ⟨lim.keeps x.toInCall.keep, codeAny_func ?_⟩
  obtain ⟨t, ht, hq⟩ := hb A outer s H vs Q E hg (room.deeper _) prom
  have I0 := inv_start (CX := L2.CX P w) (E := E) sc room.hd e0 hl r x
  refine wpAny_mono (ht.run [] s1 (start N vs) H _ I0 hq) (fun fl s' hs => ?_) fun _ _ z => z
  cases fl with
  | ret u =>
    obtain ⟨v, σ', H', J, rv, q⟩ := hs
    exact ⟨v, H', J.os, J.bare, J.base, J.hok, rv, q⟩
  | next =>
    obtain ⟨σ', H', J, q⟩ := hs
    exact ⟨.non, H', J.os, J.bare, J.base, J.hok, rfl, q⟩
  | brk =>
    obtain ⟨_, _, _, q⟩ := hs
    exact q.elim
  | cont =>
    obtain ⟨_, _, _, q⟩ := hs
    exact q.elim
end

/-! ### the frame of a def -/
def pad (nn : Nat) (cs : DEnv) : DEnv := cs ++ List.replicate (nn - cs.length) .no
def runF (np nn : Nat) (m : SM) : DM Val := fun cs => if cs.length = np then match m (pad nn cs) with
    | .nx e => .ok (.fz .none) (e.take np)
    | .rt a e => .ok a (e.take np)
    | .exc x e => .exc x (e.take np)
    | _ => .bad
  else .bad
theorem start_get {N : List Str} {vs : List V} {i : Nat} {v : Option V} (h : i < vs.length) : (L2.start N vs)[i]? = some v ↔ (vs.map some)[i]? = some v := by
  unfold L2.start
  rw [List.getElem?_append_left (by simpa using h)]
theorem pad_get {nn : Nat} {cs : DEnv} {i : Nat} {cl : Cell} (hn : cl ≠ .no) (h : (pad nn cs)[i]? = some cl) : i < cs.length ∧ cs[i]? = some cl := by
  unfold pad at h
  by_cases hi : i < cs.length
  · rw [List.getElem?_append_left hi] at h
    exact ⟨hi, h⟩
  · rw [List.getElem?_append_right (by omega), List.getElem?_replicate] at h
    split at h
    · cases h; exact absurd rfl hn
    · cases h
theorem frame_start {K : PySem.W.Frag} {N : List Str} {vs : List V} {cs : DEnv} {H Hf : Hp} (hv : vs.length ≤ N.length) (E : ER T K ⟨vs.map some, cs, H, Hf⟩) :
    ER T K ⟨L2.start N vs, pad N.length cs, H, Hf⟩ ∧ (∀ a, Own ⟨L2.start N vs, pad N.length cs, H, Hf⟩ a ↔ Own ⟨vs.map some, cs, H, Hf⟩ a) := by
  have hl : cs.length = vs.length := by have := E.len; simpa using this
  have fw : ∀ (j : Nat) (cl : Cell) (v : Option V), cl ≠ .no → (pad N.length cs)[j]? = some cl → cs[j]? = some cl ∧ ((L2.start N vs)[j]? = some v ↔ (vs.map some)[j]? = some v) := fun j cl v hn h => by
    obtain ⟨h1, h2⟩ := pad_get hn h
    exact ⟨h2, start_get (by omega)⟩
  refine ⟨⟨?_, E.sub, fun j d h => ?_, fun j ds h => ?_, fun j k ds es a h1 h2 h3 h4 => ?_, E.tb⟩, fun a => ⟨fun ⟨j, ds, h1, h2⟩ => ?_, fun ⟨j, ds, h1, h2⟩ => ?_⟩⟩
  · show (pad N.length cs).length = (L2.start N vs).length
    unfold pad L2.start
    simp only [List.length_append, List.length_replicate, List.length_map]
    omega
  · obtain ⟨v, g1, g2⟩ := E.fz j d (fw j _ none (by simp) h).1
    exact ⟨v, (fw j _ _ (by simp) h).2.mpr g1, g2⟩
  · obtain ⟨a, xs, g1, g2⟩ := E.ow j ds (fw j _ none (by simp) h).1
    exact ⟨a, xs, (fw j _ _ (by simp) h).2.mpr g1, g2⟩
  · exact E.inj j k ds es a (fw j _ none (by simp) h1).1 (fw k _ none (by simp) h2).1 ((fw j _ _ (by simp) h1).2.mp h3) ((fw k _ _ (by simp) h2).2.mp h4)
  · exact ⟨j, ds, (fw j _ none (by simp) h1).1, (fw j _ _ (by simp) h1).2.mp h2⟩
  · have hj : j < cs.length := (List.getElem?_eq_some_iff.mp h1).1
    refine ⟨j, ds, ?_, (start_get (by omega)).mpr h2⟩
    show (pad N.length cs)[j]? = _
    unfold pad
    rw [List.getElem?_append_left hj]
    exact h1
theorem frame_end {K : PySem.W.Frag} {N : List Str} {vs : List V} {cs e : DEnv} {H Hf H' Hf' : Hp} {σ' : L2.St} (hv : vs.length ≤ N.length) (E : ER T K ⟨vs.map some, cs, H, Hf⟩) (E' : ER T K ⟨σ', e, H', Hf'⟩)
    (X : Ext vs.length ⟨L2.start N vs, pad N.length cs, H, Hf⟩ ⟨σ', e, H', Hf'⟩) :
    ER T K ⟨vs.map some, e.take vs.length, H', Hf'⟩ ∧ Ext 0 ⟨vs.map some, cs, H, Hf⟩ ⟨vs.map some, e.take vs.length, H', Hf'⟩ ∧ (∀ a, Frn ⟨σ', e, H', Hf'⟩ a → Frn ⟨vs.map some, e.take vs.length, H', Hf'⟩ a) ∧
      ∀ a, Frn ⟨vs.map some, cs, H, Hf⟩ a → Frn ⟨L2.start N vs, pad N.length cs, H, Hf⟩ a := by
  obtain ⟨E0, o0⟩ := frame_start hv E
  have st : ∀ i, i < vs.length → σ'[i]? = (vs.map some)[i]? := fun i hi => by
    have h := X.lk i hi
    rw [show (DSt.mk σ' e H' Hf').st[i]? = σ'[i]? from rfl, show (DSt.mk (L2.start N vs) (pad N.length cs) H Hf).st[i]? = (L2.start N vs)[i]? from rfl] at h
    rw [h]
    unfold L2.start
    rw [List.getElem?_append_left (by simpa using hi)]
  have tk : ∀ (j : Nat) (cl : Cell), (e.take vs.length)[j]? = some cl → j < vs.length ∧ e[j]? = some cl := fun j cl h => by
    rw [List.getElem?_take] at h
    split at h
    · exact ⟨by assumption, h⟩
    · cases h
  have own : ∀ a, Own ⟨vs.map some, e.take vs.length, H', Hf'⟩ a → Own ⟨σ', e, H', Hf'⟩ a := fun a ⟨j, ds, h1, h2⟩ => by
    obtain ⟨g1, g2⟩ := tk j _ h1
    exact ⟨j, ds, g2, (st j g1).trans h2⟩
  have F : ∀ a, Frn ⟨σ', e, H', Hf'⟩ a → Frn ⟨vs.map some, e.take vs.length, H', Hf'⟩ a := fun a f => ⟨f.1, f.2.1, fun o => f.2.2 (own a o)⟩
  have F0 : ∀ a, Frn ⟨vs.map some, cs, H, Hf⟩ a → Frn ⟨L2.start N vs, pad N.length cs, H, Hf⟩ a := fun a f => ⟨f.1, f.2.1, fun o => f.2.2 ((o0 a).mp o)⟩
  refine ⟨⟨?_, E'.sub, fun j d h => ?_, fun j ds h => ?_, fun j k ds es a h1 h2 h3 h4 => ?_, E'.tb⟩, ⟨X.keep, fun a f => ?_, fun _ h => absurd h (Nat.not_lt_zero _)⟩, F, F0⟩
  · show (e.take vs.length).length = (vs.map some).length
    have he : e.length = σ'.length := E'.len
    have hge : vs.length ≤ σ'.length := by
      by_cases h0 : vs.length = 0
      · omega
      · have h1 := st (vs.length - 1) (by omega)
        rw [List.getElem?_map, List.getElem?_eq_getElem (show vs.length - 1 < vs.length by omega)] at h1
        have := (List.getElem?_eq_some_iff.mp h1).1
        omega
    rw [List.length_take, List.length_map]
    omega
  · obtain ⟨g1, g2⟩ := tk j _ h
    obtain ⟨v, r1, r2⟩ := E'.fz j d g2
    exact ⟨v, (st j g1).symm.trans r1, r2⟩
  · obtain ⟨g1, g2⟩ := tk j _ h
    obtain ⟨a, xs, r1, r2⟩ := E'.ow j ds g2
    exact ⟨a, xs, (st j g1).symm.trans r1, r2⟩
  · obtain ⟨g1, g2⟩ := tk j _ h1
    obtain ⟨g3, g4⟩ := tk k _ h2
    exact E'.inj j k ds es a g2 g4 ((st j g1).trans h3) ((st k g3).trans h4)
  · obtain ⟨f1, e1⟩ := X.frn a (F0 a f)
    exact ⟨F a f1, e1⟩
theorem def_ok {P : Program} {w : World} {K : PySem.W.Frag} {mg : Str → Option Value} {base : Heap} {x qual : Str} {st : Stmt} {f : Addr} {fd : FuncData} {ps : List Str} {S : Sc} {n : Nat} {m : SM}
    (F : Fun K x qual st f fd) (sc : FnScope S.N ps (defScope st)) (hsc : S.sc = defScope st) (hL : S.L = ps.length) (hc : cSs n S (defBody st) = some m)
    (facts : ∀ X : Cx, X.prog = P → X.w = w → X.K = K → X.mg = mg → X.base = base → (∀ y ∈ S.fr, X.mg y = none) ∧ (∀ y fn, S.T.lookup y = some fn → ∃ f fd, X.mg y = some (.ref f) ∧ PySem.W.keepIn X.K (.ref f) = true ∧ Binds X.K fd fn.ps [] ∧ (∀ ks ∈ fn.ks, KB X.K fd fn.ps ks) ∧ FnG X.prog X.w X.K X.mg X.base fn.lv f fd fn.ps (spG T X.K X.mg fn.sem)) ∧
      (∀ y d, S.G.lookup y = some d → ∃ v u, X.mg y = some u ∧ RelV v u ∧ ∀ H, Dr X.K H v d) ∧ (∀ y g, S.Xs.lookup y = some g → ExcFact X S.lv y g))
    (hH : ∀ y hd, S.Hs.lookup y = some hd → HrdOk K mg y hd)
    (hlam : ∀ q, S.tb = some q → q = qual ++ ".<locals>." ∧ ∃ cd P, (∀ (oc : Value) (od : Option Addr) (fd' : FuncData) (osl : Array (Option Value)), K.lookup f = some ⟨oc, od, .func fd', osl⟩ → fd'.code = .ref cd) ∧ LamX.TabB base mg cd P ∧ (P, q ++ "<lambda>") ∈ T ∧ ∀ p ∈ T, p.1 = P → p.2 = q ++ "<lambda>") :
    FnG P w K mg base (S.lv + 1) f fd ps (spG T K mg (runF ps.length S.N.length m)) := by
  obtain ⟨oc, od, kV, doc, pm, an, cdv, ct, osl, rfl, lk, hcd⟩ := F.ex
  have hpl : ps.length ≤ S.N.length := by have := congrArg List.length sc.pre; rw [List.length_take] at this; omega
  have rlen : ∀ vs H Q E, spG T K mg (runF ps.length S.N.length m) vs H Q E → vs.length = ps.length := fun vs H Q E h => by
    obtain ⟨cs, Hf, E0, h⟩ := h
    have hl : cs.length = vs.length := by have := E0.len; simpa using this
    unfold runF at h
    by_cases hn : cs.length = ps.length
    · omega
    · rw [if_neg hn] at h
      exact h.elim
  refine FnG.of lk hcd sc rlen fun A outer s H vs Q E hg room prom => ?_
  have hvl := rlen vs H Q E prom
  obtain ⟨cs, Hf, E0, q⟩ := prom
  have hl : cs.length = vs.length := by have := E0.len; simpa using this
  unfold runF at q
  rw [if_pos (by omega)] at q
  let X : Cx := cxOf (L2.CX P w) P w K mg base S.N qual (defScope st) f cdv A outer s H E
  obtain ⟨f1, f2, f3, f4⟩ := facts X rfl rfl rfl rfl rfl
  have ok : XOkS S X ⟨T, K, mg, S.L, fun C d _ H => E C d H⟩ :=
    { K := rfl, mg := rfl, L := rfl, N := rfl, sc := hsc.symm, nd := sc.nd, calm := rfl, gu := hg, room := room, tk := takes_of rfl rfl rfl rfl, blt := f1, fns := f2, cst := f3, own := fun _ _ => .inl rfl, hrd := hH, lam := fun q hq => by
        obtain ⟨e1, cd, P, e2, e3, e4, e5⟩ := hlam q hq
        exact ⟨cd, P, e1.symm, e2 _ _ _ _ lk, e3, e4, e5⟩, pass := passes_of rfl, exs := f4 }
  refine ⟨_, (s_ok ok n).2 _ m hc, ?_⟩
  have hv : vs.length ≤ S.N.length := by omega
  obtain ⟨E1, o1⟩ := frame_start hv E0
  refine ⟨pad S.N.length cs, Hf, E1, ?_⟩
  have fin : ∀ {σ' : L2.St} {e : DEnv} {H' Hf' : Hp}, ER T K ⟨σ', e, H', Hf'⟩ → Ext S.L ⟨L2.start S.N vs, pad S.N.length cs, H, Hf⟩ ⟨σ', e, H', Hf'⟩ →
      ER T K ⟨vs.map some, e.take ps.length, H', Hf'⟩ ∧ Ext 0 ⟨vs.map some, cs, H, Hf⟩ ⟨vs.map some, e.take ps.length, H', Hf'⟩ ∧ (∀ a, Frn ⟨σ', e, H', Hf'⟩ a → Frn ⟨vs.map some, e.take ps.length, H', Hf'⟩ a) ∧ ∀ a, Frn ⟨vs.map some, cs, H, Hf⟩ a → Frn ⟨L2.start S.N vs, pad S.N.length cs, H, Hf⟩ a := fun {σ' e H' Hf'} E2 X2 => by
    have hL' : S.L = vs.length := by omega
    rw [hL'] at X2
    have := frame_end hv E0 E2 X2
    rwa [hvl] at this
  cases hm : m (pad S.N.length cs) with
  | nx e =>
    rw [hm] at q
    intro σ' H' Hf' E2 X2
    obtain ⟨g1, g2, g3, g4⟩ := fin E2 X2
    exact q _ H' Hf' g1 g2 Dr.non
  | rt a e =>
    rw [hm] at q
    intro v σ' H' Hf' E2 X2 r
    obtain ⟨g1, g2, g3, g4⟩ := fin E2 X2
    refine q v H' Hf' g1 g2 ?_
    cases a with
    | fz d => exact r
    | ow ds =>
      obtain ⟨p, xs, h1, h2, h3, h4, h5⟩ := r
      exact ⟨p, xs, h1, h2, h3, g3 p h4, fun z => h5 (g4 p z)⟩
  | exc x e =>
    rw [hm] at q
    intro C dx σ' H' Hf' E2 X2 r
    obtain ⟨g1, g2, g3, g4⟩ := fin E2 X2
    exact q C dx H' Hf' g1 g2 r
  | brk e => rw [hm] at q; exact q.elim
  | cnt e => rw [hm] at q; exact q.elim
  | bad => rw [hm] at q; exact q.elim
end DL

set_option maxHeartbeats 4000000
/-! DL17: a law's end over a def of the deep layer. -/
namespace DL
open PySem PySem.Spec PyProof.Rows L2

/-- nothing but the script, where the module does not hold it, is looked at -/
def scrH (K : PySem.W.Frag) (a : Addr) (vs : List Value) (ns : List Int) : Hp := fun b =>
  if b = a ∧ K.lookup a = none then some (.frz { cls := .type "list", data := .seq vs.toArray } (.lst (ns.map V.int))) else none
section
variable {P : Program} {w : World} {K : PySem.W.Frag} {mg mb : Str → Option Value} {k : Nat} {fa a : Addr} {fd : FuncData} {x : Str} {s₁ : Shared} {vs : List Value} {ns : List Int} {sem : DM Val}
theorem scrH_some {b : Addr} {u : HO} (h : scrH K a vs ns b = some u) : b = a ∧ K.lookup a = none ∧ u = .frz { cls := .type "list", data := .seq vs.toArray } (.lst (ns.map V.int)) := by
  unfold scrH at h
  by_cases hc : b = a ∧ K.lookup a = none
  · rw [if_pos hc] at h
    exact ⟨hc.1, hc.2, (Option.some.inj h).symm⟩
  · rw [if_neg hc] at h; cases h
theorem scrH_not {b : Addr} (h : b ≠ a) : scrH K a vs ns b = none := if_neg fun z => h z.1
/-- the call of the law -/
theorem end_call (KX : K.In s₁.heap) (hns : s₁.heap.Ns mainGlobals mg) (hb : s₁.heap.Ns builtinsNs mb) (hbb : ∀ x : Str, x ≠ "__name__" → mb x = bootBuiltins x) (hlim : s₁.heap.NoLimit) (hg : s₁.gens = #[])
    (ha : s₁.heap.get? a = some { cls := .type "list", data := .seq vs.toArray }) (hi : IntsAre vs ns) (hl : ns.length ≤ sizeLine) (hr : Room k callerA)
    (F : ∀ base : Heap, K.In base → base.Ns mainGlobals mg → FnG P w K mg base k fa fd [x] (spG [] K mg sem)) (hbind : ∀ (s : Shared) (u : Value), BindsTo s fd ⟨[u], []⟩ [(x, u)])
    (hsem : ∃ e, sem [.fz (scD ns)] = .ok (.fz (.bool true)) e) :
    codeAny (model P w) callerA (.call (.ref fa) ⟨[.ref a], []⟩) (fun r s' => r = .ok (.ret (.bool true)) ∧ OldK s₁.heap s'.heap ∧ s'.os = s₁.os ∧ AllBare s'.gens) s₁ := by
  have rv := vals_ints hi
  have nofld : ∀ {b : Addr} {o : Obj} {es : Array DictEntry} {ep : Nat}, s₁.heap.get? b = some o → o.data = .dict es ep → scrH K a vs ns b = none := fun {b o es ep} e d => by
    refine scrH_not fun z => ?_
    rw [z, ha] at e
    cases e
    cases d
  have toNs : ∀ {b : Addr} {m : Str → Option Value}, s₁.heap.Ns b m → (hidT s₁.heap (scrH K a vs ns)).Ns b m := fun {b m} h => by
    obtain ⟨o, es, ep, e, d, r⟩ := h
    exact ⟨o, es, ep, hidT_get e (nofld e d), d, r⟩
  have hK : K.In (hidT s₁.heap (scrH K a vs ns)) := fun b o e => hidT_get (KX b o e) (by
    cases q : scrH K a vs ns b with
    | none => rfl
    | some u =>
      obtain ⟨z1, z2, _⟩ := scrH_some q
      rw [z1, z2] at e
      cases e)
  have hok : HOk P w (scrH K a vs ns) s₁.heap := fun b u q => by
    obtain ⟨z1, _, z3⟩ := scrH_some q
    rw [z1, z3]
    exact ⟨ha, by rw [List.length_map]; exact hl, vs, _, rv, ha⟩
  have hM : L2.Mod K mg (hidT s₁.heap (scrH K a vs ns)) := by
    obtain ⟨mc, l1, l2⟩ := hlim
    exact ⟨hK, toNs hns, ⟨mb, toNs hb, hbb⟩, ⟨mc, toNs l1, l2⟩⟩
  have e0 : Env0 P w K mg (hidT s₁.heap (scrH K a vs ns)) callerA [] s₁ (scrH K a vs ns) :=
    { frames := rfl, mod := hM, bs := fun b o e => of_hidT e, bsz := Nat.le_of_eq (hidT_size _ _), funs := trivial, frf := (fun b hb => absurd (show b ∈ ([] : List Addr) from hb) (by simp)), hok := hok, bare := .of_eq hg }
  have hscr : SqL K (scrH K a vs ns) a (ns.map V.int) := by
    cases hk : K.lookup a with
    | none => exact .inl (.inr ⟨_, if_pos ⟨rfl, hk⟩⟩)
    | some o =>
      have e := KX a o hk
      rw [ha] at e
      cases e
      exact .inr ⟨_, vs.toArray, _, hk, rfl, rfl, rfl, by rw [List.size_toArray, hi.length]; exact hl, by simpa using rv⟩
  have hsp : spG [] K mg sem [.ref a] (scrH K a vs ns) (fun v _ => v = .bl true) fun _ _ _ => False := by
    obtain ⟨e, hs⟩ := hsem
    refine ⟨[.fz (scD ns)], scrH K a vs ns, ⟨rfl, Same.refl _, fun i d q => ?_, fun i ds q => ?_, fun i j ds es b q => ?_, ⟨fun p hp => (by cases hp), fun b ps z => (by obtain ⟨_, _, z3⟩ := scrH_some z; cases z3)⟩⟩, ?_⟩
    · match i, q with
      | 0, q =>
        cases q
        exact ⟨.ref a, rfl, .scr hscr⟩
      | i + 1, q => simp at q
    · match i, q with
      | 0, q => cases q
      | i + 1, q => simp at q
    · match i, q with
      | 0, q => cases q
      | i + 1, q => simp at q
    · rw [hs]
      intro v H' Hf' E' X' r
      have r' : Dr K Hf' v (.bool true) := r
      cases r'
      rfl
  refine codeAny_mono ((F _ hK (toNs hns)).go callerA [] s₁ _ ⟨[.ref a], []⟩ [.ref a] [.ref a] _ _ rfl hr e0 (hbind s₁ (.ref a)) (.cons rfl .nil) hsp) fun r s' h => ?_
  cases r with
  | error u =>
    obtain ⟨_, _, _, _, _, _, _, _, _, _, _, _, z⟩ := h
    exact z.elim
  | ok fl =>
    cases fl with
    | ret u =>
      obtain ⟨v, H', os, bare, un, hok', r', q⟩ := h
      cases (show v = .bl true from q)
      cases (show u = Value.bool true from r')
      refine ⟨rfl, OldK.of_keep fun b o e => ?_, os, bare⟩
      cases q : scrH K a vs ns b with
      | none => exact un.keep b o e q (fun z => absurd (show b ∈ ([] : List Addr) from z) (by simp)) (by simp)
      | some u =>
        obtain ⟨z1, z2, z3⟩ := scrH_some q
        rw [z3] at q
        obtain ⟨e2, _⟩ := hok' b _ (un.frzs b _ _ q)
        rw [z1] at e ⊢
        rw [ha] at e
        cases e
        rw [z1] at e2
        exact e2
    | next => exact h.elim
    | brk => exact h.elim
    | cont => exact h.elim
end
/-- a law: F tells the written part, the law's def and what it does, over every base -/
theorem law_walk {l : PySem.W.OpenLaw} {n k : Nat} {q : Program} {loose : List Str} {XP : (Str → Option Value) → Heap → Prop} {YP : World → Heap → Prop} {d : DefRec} {x : Str}
    (hn : l.most = some n) (hn2 : n ≤ sizeLine) (hdf : d.params.defaults = []) (hr : Room k callerA)
    (F : ∀ (w : World) (mg : Str → Option Value) (fa : Addr) (h : Heap), YP w h → h.Ns mainGlobals mg → mg d.name = some (.ref fa) →
      ∃ (K : PySem.W.Frag) (fd : FuncData) (sem : DM Val), K.In h ∧ (∀ (s : Shared) (u : Value), BindsTo s fd ⟨[u], []⟩ [(x, u)]) ∧ (∀ ns : List Int, ns.length ≤ n → ∃ e, sem [.fz (scD ns)] = .ok (.fz (.bool true)) e) ∧
        ∀ base : Heap, K.In base → base.Ns mainGlobals mg → FnG l.prog w K mg base k fa fd [x] (spG [] K mg sem)) :
    PySem.W.WalkO q loose XP YP l.row.toRowW d [] (fun f vs => PySem.call f vs) := by
  refine Att.attach_call hn hdf fun w s₀ s₁ mg mb fa o pm cd doc a vs ns G Y ho hd hcd hmg hobj hints hlen hg => ?_
  obtain ⟨K, fd, sem, KX, hb, hs, hF⟩ := F w mg fa _ Y G.T.g hmg
  exact end_call KX G.T.g G.T.b G.T.builtins G.T.nolimit hg hobj hints (Nat.le_trans hlen hn2) hr hF hb (hs ns hlen)
end DL

/-! DL18: a law's defs, one by one, from the head's facts. -/
namespace DL
open PySem PySem.Spec PyProof.Rows L2

/-! ### short names for what the compiler writes -/
abbrev gAddX : D → D → Option Val := gOr gAddI (gOr gCatL (gOr gCatS gCatA))
abbrev gMulX : D → D → Option Val := gOr gMulI (gOr gRep gRepT)
abbrev gEqX : D → D → Option Bool := gOrB gEqN gEqP
abbrev gLtX : D → D → Option Bool := gCI fun i j => decide (i < j)
abbrev gLeX : D → D → Option Bool := gCI fun i j => decide (i ≤ j)
abbrev gGtX : D → D → Option Bool := gCI fun i j => decide (j < i)
abbrev gGeX : D → D → Option Bool := gCI fun i j => decide (j ≤ i)
abbrev gIsX : D → D → Option Bool := gOrB (gIsN false) (gIsB false)
abbrev gNotX : D → D → Option Bool := gOrB (gIsN true) (gIsB true)
def sNx : SM := fun e => .nx e

section
variable {T : Tb} {B : Heap → Prop} {P : Program} {w : World} {K : PySem.W.Frag} {mg : Str → Option Value}
/-- a def that keeps its contract, over every base -/
def FnR (T : Tb) (B : Heap → Prop) (P : Program) (w : World) (K : PySem.W.Frag) (mg : Str → Option Value) (x : Str) (fn : Fn) : Prop :=
  ∃ f fd, mg x = some (.ref f) ∧ PySem.W.keepIn K (.ref f) = true ∧ Binds K fd fn.ps [] ∧ (∀ ks ∈ fn.ks, KB K fd fn.ps ks) ∧ (∀ (s : Shared) (us : List Value), us.length = fn.ps.length → BindsTo s fd ⟨us, []⟩ (fn.ps.zip us)) ∧ ∀ base, B base → FnG P w K mg base fn.lv f fd fn.ps (spG T K mg fn.sem)
/-- a class of exceptions with one field, over every base -/
def ExcR (P : Program) (w : World) (K : PySem.W.Frag) (mg : Str → Option Value) (lv : Nat) (x f : Str) : Prop := ∃ (C fI : Addr) (k : Nat) (fd : FuncData) (ps : List Str), mg x = some (.ref C) ∧ OexC K C ∧ PySem.W.findIn K (.ref C) "__init__" = some (some (.ref fI)) ∧ PySem.W.typeIn K (.ref fI) = some (.type "function") ∧
  (∀ base, FnOk P w K mg base CX0 k fI fd ps (fun vs H Q _ => ∃ a y, vs = [.ref a, y] ∧ H a = some (exo a C none) ∧ ∀ dx, H dx = none → dx ≠ a → Q .non (upd (upd H dx (exd dx [(f, y)])) a (exo a C (some dx))))) ∧ k + 1 ≤ lv ∧ Binds K fd ps []
def CstR (K : PySem.W.Frag) (mg : Str → Option Value) (x : Str) (d : D) : Prop := ∃ v u, mg x = some u ∧ RelV v u ∧ ∀ H, Dr K H v d
theorem lookup_all {α : Type} {Pr : Str → α → Prop} : ∀ {l : List (Str × α)}, (∀ p ∈ l, Pr p.1 p.2) → ∀ x a, l.lookup x = some a → Pr x a
  | [], _, _, _, h => by cases h
  | (y, b) :: r, hl, x, a, h => by
    rw [List.lookup_cons] at h
    cases e : x == y with
    | true =>
      rw [e] at h
      cases h
      have := hl (y, b) (List.mem_cons_self ..)
      rwa [← eq_of_beq e] at this
    | false =>
      rw [e] at h
      exact lookup_all (fun p hp => hl p (List.mem_cons_of_mem _ hp)) x a h
/-- a def of the text, by its compiled body -/
theorem fnr_of {x : Str} {st : Stmt} {f : Addr} {fd : FuncData} {ps : List Str} {S : Sc} {n : Nat} {m : SM} {lend : List Bool} {kss : List (List Str)} (F : FunD K x x (defArgs st) (defBody st) (defScope st) [] [] f fd) (hm : mg x = some (.ref f))
    (sc : FnScope S.N ps (defScope st)) (hsc : S.sc = defScope st) (hL : S.L = ps.length) (hc : cSs n S (defBody st) = some m)
    (hb : ∀ (kV doc pm : Value) (an : Option Addr) (cdv ct : Value) (us : List Value), us.length = ps.length → bindArgs (PySem.W.fnOf x x (defArgs st) (defBody st) (defScope st) .none kV doc pm an cdv ct) ⟨us, []⟩ = pure (ps.zip us))
    (hk : ∀ ks ∈ kss, ∀ (kV doc pm : Value) (an : Option Addr) (cdv ct : Value) (us : List Value), us.length = ks.length → bindArgs (PySem.W.fnOf x x (defArgs st) (defBody st) (defScope st) .none kV doc pm an cdv ct) ⟨[], ks.zip us⟩ = pure (ps.zip (reord .none ks ps us)))
    (hfr : ∀ y ∈ S.fr, mg y = none) (hT : ∀ p ∈ S.T, FnR T B P w K mg p.1 p.2) (hG : ∀ p ∈ S.G, CstR K mg p.1 p.2) (hX : ∀ p ∈ S.Xs, ExcR P w K mg S.lv p.1 p.2) (hH : ∀ p ∈ S.Hs, HrdOk K mg p.1 p.2)
    (hlam : ∀ q, S.tb = some q → q = x ++ ".<locals>." ∧ ∃ cd Pt, (∀ (oc : Value) (od : Option Addr) (fd' : FuncData) (osl : Array (Option Value)), K.lookup f = some ⟨oc, od, .func fd', osl⟩ → fd'.code = .ref cd) ∧ (∀ base, B base → LamX.TabB base mg cd Pt) ∧ (Pt, q ++ "<lambda>") ∈ T ∧ ∀ p ∈ T, p.1 = Pt → p.2 = q ++ "<lambda>") :
    FnR T B P w K mg x ⟨ps, S.lv + 1, lend, kss, runF ps.length S.N.length m⟩ := by
  have FN : Fun K x x st f fd := by
    obtain ⟨oc, od, dV, kV, doc, pm, an, cdv, ct, osl, e, lk, hcd, hD, hK⟩ := F.ex
    have ed : dV = .none := by
      rcases hD with ⟨_, z⟩ | ⟨z, _⟩
      · exact z
      · exact absurd rfl z
    subst ed
    exact ⟨⟨oc, od, kV, doc, pm, an, cdv, ct, osl, e, lk, hcd⟩, F.kp⟩
  have kb : ∀ ks ∈ kss, KB K fd ps ks := fun ks hks s ws _ hl => by
    obtain ⟨oc, od, kV, doc, pm, an, cdv, ct, osl, e, lk, hcd⟩ := FN.ex
    subst e
    exact .of_eq (hk ks hks kV doc pm an cdv ct ws hl)
  refine ⟨f, fd, hm, F.kp, F.bindsN hb, kb, fun s us hl => F.bindsA hb s us hl, fun base hB => def_ok FN sc hsc hL hc (fun X e1 e2 e3 e4 e5 => ?_) (fun y hd hy => lookup_all (Pr := fun y hd => HrdOk K mg y hd) hH y hd hy) fun q hq => ?_⟩
  rotate_left
  · obtain ⟨g1, cd, Pt, g2, g3, g4, g5⟩ := hlam q hq
    exact ⟨g1, cd, Pt, g2, g3 base hB, g4, g5⟩
  subst e1 e2 e3 e4 e5
  refine ⟨hfr, fun y fn hy => ?_, fun y d hy => lookup_all (Pr := fun y d => CstR X.K X.mg y d) hG y d hy, fun y g hy => ?_⟩
  · obtain ⟨f', fd', g1, g2, g3, g4, _, g5⟩ := lookup_all (Pr := fun y fn => FnR T B X.prog X.w X.K X.mg y fn) hT y fn hy
    exact ⟨f', fd', g1, g2, g3, g4, g5 X.base hB⟩
  · obtain ⟨C, fI, k, fd', ps', g1, g2, g3, g4, g5, g6, g7⟩ := lookup_all (Pr := fun y g => ExcR X.prog X.w X.K X.mg S.lv y g) hX y g hy
    exact ⟨C, fI, k, fd', ps', g1, g2, g3, g4, g5 X.base, g6, g7⟩
end
end DL

/-! DX3: classes of exceptions, defs that hear, by the head's facts; a law's end with tables. -/
namespace DL
open PySem PySem.Spec PyProof.Rows L2

/-! ### classes of exceptions -/
def cInit : List Stmt → Option (Str × Str × Str)
  | [.Assign [.Attribute (.Name a _) f _] (.Name b _) _] => some (a, b, f)
  | _ => none
section
variable {P : Program} {w : World} {K : PySem.W.Frag} {mg : Str → Option Value} {base : Heap}
theorem init_ok {qual a b fld : Str} {params : Arguments} {body : List Stmt} {scope : Scope} {fI C : Addr} {fd : FuncData} (F : FunD K "__init__" qual params body scope [] [] fI fd) (S : FnScope [a, b] [a, b] scope) (hc : cInit body = some (a, b, fld))
    (la : locL scope a = true) (lb : locL scope b = true) (T : OexC K C) (hno : PySem.W.findIn K (.ref C) fld = some none) :
    FnOk P w K mg base CX0 1 fI fd [a, b] (fun vs H Q _ => ∃ p y, vs = [.ref p, y] ∧ H p = some (exo p C none) ∧ ∀ dx, H dx = none → dx ≠ p → Q .non (upd (upd H dx (exd dx [(fld, y)])) p (exo p C (some dx)))) := by
  unfold cInit at hc
  split at hc
  · cases hc
    obtain ⟨a1, a2, a3⟩ := locL_ok la
    obtain ⟨b1, b2, b3⟩ := locL_ok lb
    refine F.ok (k := 0) S (fun vs H Q E h => by obtain ⟨p, y, e, _⟩ := h; rw [e]; rfl) fun cdv A outer s H vs Q E hr h => ?_
    obtain ⟨p, y, rfl, hp, q⟩ := h
    exact ⟨_, pss_one (ps_ost (pe_var (i := 0) rfl (.inl a1) a2 a3) (pe_var (i := 1) rfl (.inl b1) b2 b3)), y, rfl, .ref p, rfl, p, C, rfl, T, hno, .inl ⟨hp, fun dx h1 h2 => q dx h1 h2⟩⟩
  · cases hc
end
def oexB (K : PySem.W.Frag) (C : Addr) : Bool := match K.lookup C with
  | some ⟨.type ty, _, .cls cd, sl⟩ => ty == "type" && (match cd.mro, sl.toList with
    | .ref C' :: bm, [_, _, _, _, some (.builtin n), _] => (C' == C) && ((n == "ValueError.__new__") && (!cd.hasDel && (cd.hasDict && HandSPX.refsVE bm)))
    | _, _ => false)
  | _ => false
theorem oexB_ok {K : PySem.W.Frag} {C : Addr} (h : oexB K C = true) : ∃ nm q N bs bm sn sub ab col dd k0 k1 k2 k3 k5, K.lookup C = some (excClassObj nm q C N bs bm true sn sub ab col dd k0 k1 k2 k3 k5 "ValueError.__new__") ∧ HandSPX.refsVE bm = true := by
  unfold oexB at h
  cases hl : K.lookup C with
  | none => rw [hl] at h; cases h
  | some o =>
    rw [hl] at h
    obtain ⟨oc, od, dt, sl⟩ := o
    cases oc with
    | type ty =>
      cases dt with
      | cls cd =>
        obtain ⟨nm, bs, mro, ns, qn, hd, sn, sub, ab, col, del⟩ := cd
        obtain ⟨ht, h2⟩ := Bool.and_eq_true_iff.mp h
        clear h
        obtain rfl := eq_of_beq ht
        dsimp only at h2
        split at h2
        · rename_i C' bm k0 k1 k2 k3 n k5 hs
          simp only [Bool.and_eq_true, beq_iff_eq, Bool.not_eq_true'] at h2
          obtain ⟨rfl, rfl, rfl, rfl, hr⟩ := h2
          obtain ⟨l⟩ := sl
          dsimp only at hs
          subst hs
          exact ⟨nm, qn, ns, bs, bm, sn, sub, ab, col, od, k0, k1, k2, k3, k5, rfl, hr⟩
        · cases h2
      | _ => cases h
    | _ => cases dt <;> cases h
/-- a class with one field, made by a def that sets it -/
def excB (K : PySem.W.Frag) (x f : Str) : Bool := oexB K (He.ga K x) && (decide (PySem.W.nsIn K mainGlobals x = some (some (.ref (He.ga K x)))) && (decide (PySem.W.findIn K (.ref (He.ga K x)) "__setattr__" = some (some (.builtin "object.__setattr__"))) && (decide (PySem.W.subIn K (.ref (He.ga K x)) (.type "BaseException") = some true) &&
  (decide (PySem.W.typeIn K (.ref (He.ga K x)) = some (.type "type")) && (PySem.W.keepIn K (.ref (He.ga K x)) && (decide (PySem.W.findIn K (.ref (He.ga K x)) "__init__" = some (some (.ref (He.ma K (He.ga K x) "__init__")))) && (decide (PySem.W.typeIn K (.ref (He.ma K (He.ga K x) "__init__")) = some (.type "function")) &&
    decide (PySem.W.findIn K (.ref (He.ga K x)) f = some none))))))))
section
variable {P : Program} {w : World} {K : PySem.W.Frag} {mg : Str → Option Value} {h : Heap}
theorem excR_of {x fld qual a b : Str} {params : Arguments} {body : List Stmt} {scope : Scope} {fd : FuncData} {lv : Nat} (X : K.In h) (G : h.Ns mainGlobals mg) (e : excB K x fld = true) (F : FunD K "__init__" qual params body scope [] [] (He.fAd K (x, some "__init__")) fd) (S : FnScope [a, b] [a, b] scope) (hc : cInit body = some (a, b, fld))
    (la : locL scope a = true) (lb : locL scope b = true) (hlv : 2 ≤ lv)
    (hb : ∀ (kV doc pm : Value) (an : Option Addr) (cdv ct : Value) (us : List Value), us.length = [a, b].length → bindArgs (PySem.W.fnOf "__init__" qual params body scope .none kV doc pm an cdv ct) ⟨us, []⟩ = pure ([a, b].zip us)) : ExcR P w K mg lv x fld := by
  unfold excB at e
  simp only [Bool.and_eq_true, decide_eq_true_eq] at e
  obtain ⟨e1, e2, e3, e4, e5, e6, e7, e8, e9⟩ := e
  have T : OexC K (He.ga K x) := ⟨oexB_ok e1, e3, e4, e5, e6⟩
  exact ⟨He.ga K x, _, 1, fd, [a, b], PySem.W.mg_of X G e2, T, e7, e8, fun base => init_ok F S hc la lb T e9, hlv, F.bindsN hb⟩
/-- what is asked of the class that a def hears -/
def hrdB (K : PySem.W.Frag) (hd : Hd) : Bool := decide (PySem.W.nsIn K mainGlobals hd.xc = some (some (.ref (He.ga K hd.xc)))) && (decide (PySem.W.exmOne K (.ref (He.ga K hd.xc)) (.ref (He.ga K hd.xc)) = some true) && (xcB K (He.ga K hd.xc) && ((hd.hx.all fun q => match q.field with
    | some f => decide (PySem.W.findIn K (.ref (He.ga K hd.xc)) f = some none)
    | none => true) &&
  ((hd.isG.all fun p => decide (PySem.W.nsIn K mainGlobals p.1 = some (some (.ref (He.ga K p.1)))) && decide (PySem.W.kitOne K (.ref (He.ga K hd.xc)) (.ref (He.ga K p.1)) = some p.2)) && hd.isT.all fun p => decide (PySem.W.kitOne K (.ref (He.ga K hd.xc)) (.type p.1) = some p.2)))))
theorem look_mem {α β : Type} [BEq α] [LawfulBEq α] {x : α} {b : β} : ∀ {l : List (α × β)}, l.lookup x = some b → (x, b) ∈ l
  | [], h => by cases h
  | (y, c) :: r, h => by
    rw [List.lookup_cons] at h
    cases q : x == y with
    | true =>
      rw [q] at h
      cases h
      rw [eq_of_beq q]
      exact List.mem_cons_self
    | false =>
      rw [q] at h
      exact List.mem_cons_of_mem _ (look_mem h)
theorem hrd_of {x a : Str} {st : Stmt} {f : Addr} {fd : FuncData} {hd : Hd} {hp : HdP} {fr : List Str} (X : K.In h) (G : h.Ns mainGlobals mg) (e : hrdB K hd = true) (F : FunD K x x (defArgs st) (defBody st) (defScope st) [] [] f fd) (hm : mg x = some (.ref f)) (sc : FnScope [a, hp.r, hp.n] [a] (defScope st)) (la : locL (defScope st) a = true)
    (hc : cHeard (defScope st) fr a (defBody st) = some hp) (h1 : hp.xc = hd.xc) (h2 : hp.hx = hd.hx) (free : ∀ y ∈ fr, mg y = none)
    (hb : ∀ (kV doc pm : Value) (an : Option Addr) (cdv ct : Value) (us : List Value), us.length = [a].length → bindArgs (PySem.W.fnOf x x (defArgs st) (defBody st) (defScope st) .none kV doc pm an cdv ct) ⟨us, []⟩ = pure ([a].zip us)) : HrdOk K mg x hd := by
  unfold hrdB at e
  simp only [Bool.and_eq_true, decide_eq_true_eq, List.all_eq_true] at e
  obtain ⟨e1, e2, e3, e4, e5, e6⟩ := e
  have bn := F.bindsN hb
  obtain ⟨oc, od, dV, kV, doc, pm, an, cdv, ct, osl, rfl, lk, hcd, hD, hK⟩ := F.ex
  refine ⟨f, He.ga K hd.xc, _, _, _, dV, kV, doc, pm, cdv, ct, oc, an, od, osl, a, fr, hp, hm, F.kp, lk, hcd, bn, sc, la, hc, h1, h2, free, PySem.W.mg_of X G e1, e2, xcB_ok e3, fun q hq fl hf => ?_, fun y b hy => ?_, fun t b ht => ?_⟩
  · have z := e4 q hq
    rw [hf] at z
    exact of_decide_eq_true z
  · have z := e5 (y, b) (look_mem hy)
    exact ⟨He.ga K y, PySem.W.mg_of X G z.1, z.2⟩
  · exact e6 (t, b) (look_mem ht)
end

/-! ### the end with tables -/
section
variable {P : Program} {w : World} {K : PySem.W.Frag} {mg mb : Str → Option Value} {k : Nat} {fa a : Addr} {fd : FuncData} {x : Str} {s₁ : Shared} {vs : List Value} {ns : List Int} {sem : DM Val} {T : Tb} {cs : List (Addr × Addr)}
/-- the script and the tables -/
def scrT (K : PySem.W.Frag) (a : Addr) (vs : List Value) (ns : List Int) (ts : List Addr) : Hp := fun b => match scrH K a vs ns b with
  | some o => some o
  | none => if b ∈ ts then some (.tbl #[]) else none
theorem scrT_some {ts : List Addr} {b : Addr} {u : HO} (h : scrT K a vs ns ts b = some u) : scrH K a vs ns b = some u ∨ (b ∈ ts ∧ u = .tbl #[]) := by
  unfold scrT at h
  cases q : scrH K a vs ns b with
  | some o => rw [q] at h; exact .inl h
  | none =>
    rw [q] at h
    dsimp only at h
    by_cases hb : b ∈ ts
    · rw [if_pos hb] at h
      exact .inr ⟨hb, (Option.some.inj h).symm⟩
    · rw [if_neg hb] at h; cases h
theorem end_callT (KX : K.In s₁.heap) (hns : s₁.heap.Ns mainGlobals mg) (hb : s₁.heap.Ns builtinsNs mb) (hbb : ∀ x : Str, x ≠ "__name__" → mb x = bootBuiltins x) (hlim : s₁.heap.NoLimit) (hg : s₁.gens = #[])
    (eT : ∀ p ∈ cs, s₁.heap.get? p.2 = some { cls := .none, data := .fields #[] }) (oT : ∀ p ∈ cs, K.lookup p.2 = none) (cT : ∀ p ∈ cs, PySem.W.CodeHd s₁.heap p.1 p.2) (tT : ∀ t ∈ T, ∃ p ∈ cs, t.1 = p.2)
    (hbm : ∃ (bm : Addr) (ob : Obj), mg "__builtins__" = some (.ref bm) ∧ bm ≠ builtinsNs ∧ s₁.heap.get? bm = some ob ∧ ob.cls = .type "module" ∧ ob.dict = some builtinsNs ∧ ob.data = .plain)
    (ha : s₁.heap.get? a = some { cls := .type "list", data := .seq vs.toArray }) (hi : IntsAre vs ns) (hl : ns.length ≤ sizeLine) (hr : Room k callerA)
    (F : ∀ base : Heap, K.In base → base.Ns mainGlobals mg → (∀ p ∈ cs, LamX.TabB base mg p.1 p.2) → FnG P w K mg base k fa fd [x] (spG T K mg sem)) (hbind : ∀ (s : Shared) (u : Value), BindsTo s fd ⟨[u], []⟩ [(x, u)])
    (hsem : ∃ e, sem [.fz (scD ns)] = .ok (.fz (.bool true)) e) :
    codeAny (model P w) callerA (.call (.ref fa) ⟨[.ref a], []⟩) (fun r s' => r = .ok (.ret (.bool true)) ∧ OldK s₁.heap s'.heap ∧ s'.os = s₁.os ∧ AllBare s'.gens) s₁ := by
  generalize hts : cs.map (·.2) = ts
  have inT : ∀ p ∈ cs, p.2 ∈ ts := fun p hp => by rw [← hts]; exact List.mem_map.mpr ⟨p, hp, rfl⟩
  have ofT : ∀ b ∈ ts, ∃ p ∈ cs, p.2 = b := fun b hb => by rw [← hts] at hb; exact List.mem_map.mp hb
  have tab : ∀ b ∈ ts, s₁.heap.get? b = some { cls := .none, data := .fields #[] } ∧ K.lookup b = none := fun b hb => by
    obtain ⟨p, hp, rfl⟩ := ofT b hb
    exact ⟨eT p hp, oT p hp⟩
  have aT : a ∉ ts := fun z => by
    have q := (tab a z).1
    rw [ha] at q
    cases q
  have tabH : ∀ b ∈ ts, scrT K a vs ns ts b = some (.tbl #[]) := fun b hb => by
    unfold scrT
    rw [scrH_not (fun z => aT (by rw [← z]; exact hb))]
    exact if_pos hb
  have rv := vals_ints hi
  -- what is neither a list nor a table is looked at where it stands
  have free : ∀ {b : Addr} {o : Obj}, s₁.heap.get? b = some o → (∀ l n, o.data ≠ .seq l n) → o.data ≠ .fields #[] → scrT K a vs ns ts b = none := fun {b o} e n1 n2 => by
    cases q : scrT K a vs ns ts b with
    | none => rfl
    | some u =>
      rcases scrT_some q with z | ⟨z, _⟩
      · obtain ⟨z1, _, _⟩ := scrH_some z
        rw [z1, ha] at e
        cases e
        exact absurd rfl (n1 _ _)
      · rw [(tab b z).1] at e
        cases e
        exact absurd rfl n2
  have toNs : ∀ {b : Addr} {m : Str → Option Value}, s₁.heap.Ns b m → (hidT s₁.heap (scrT K a vs ns ts)).Ns b m := fun {b m} h => by
    obtain ⟨o, es, ep, e, d, r⟩ := h
    exact ⟨o, es, ep, hidT_get e (free e (fun l n z => by rw [d] at z; cases z) fun z => by rw [d] at z; cases z), d, r⟩
  have hK : K.In (hidT s₁.heap (scrT K a vs ns ts)) := fun b o e => hidT_get (KX b o e) (by
    cases q : scrT K a vs ns ts b with
    | none => rfl
    | some u =>
      rcases scrT_some q with z | ⟨z, _⟩
      · obtain ⟨z1, z2, _⟩ := scrH_some z
        rw [z1, z2] at e
        cases e
      · rw [(tab b z).2] at e
        cases e)
  have hok : HOk P w (scrT K a vs ns ts) s₁.heap := fun b u q => by
    rcases scrT_some q with z | ⟨z, e⟩
    · obtain ⟨z1, _, z3⟩ := scrH_some z
      rw [z1, z3]
      exact ⟨ha, by rw [List.length_map]; exact hl, vs, _, rv, ha⟩
    · rw [e]
      exact (tab b z).1
  have hM : L2.Mod K mg (hidT s₁.heap (scrT K a vs ns ts)) := by
    obtain ⟨mc, l1, l2⟩ := hlim
    exact ⟨hK, toNs hns, ⟨mb, toNs hb, hbb⟩, ⟨mc, toNs l1, l2⟩⟩
  have e0 : Env0 P w K mg (hidT s₁.heap (scrT K a vs ns ts)) callerA [] s₁ (scrT K a vs ns ts) :=
    { frames := rfl, mod := hM, bs := fun b o e => of_hidT e, bsz := Nat.le_of_eq (hidT_size _ _), funs := trivial, frf := (fun b hb => absurd (show b ∈ ([] : List Addr) from hb) (by simp)), hok := hok, bare := .of_eq hg }
  have TB : ∀ p ∈ cs, LamX.TabB (hidT s₁.heap (scrT K a vs ns ts)) mg p.1 p.2 := fun p hp => by
    refine ⟨?_, ?_, fun z => ?_⟩
    · obtain ⟨o, us, file, tf, flags, tg, inF, text, tt, c1, c2, c3, c4, rest⟩ := cT p hp
      exact ⟨o, us, file, tf, flags, tg, inF, text, tt, hidT_get c1 (free c1 (fun l n z => by rw [c3] at z; cases z) fun z => by rw [c3] at z; cases z; cases c4), c2, c3, c4, rest⟩
    · obtain ⟨bm, ob, b1, b2, b3, b4, b5, b6⟩ := hbm
      have nG : bm ≠ mainGlobals := fun q => by
        obtain ⟨o, es, ep, o1, o2, _⟩ := hns
        rw [← q, b3] at o1
        cases o1
        rw [b6] at o2
        cases o2
      have nP : bm ≠ p.2 := fun q => by
        have q2 := eT p hp
        rw [← q, b3] at q2
        cases q2
        cases b6
      exact ⟨bm, ob, b1, b2, nG, nP, hidT_get b3 (free b3 (fun l n z => by rw [b6] at z; cases z) fun z => by rw [b6] at z; cases z), b4, b5, b6⟩
    · obtain ⟨o, es, ep, o1, o2, _⟩ := hns
      have q2 := eT p hp
      rw [← z, o1] at q2
      cases q2
      cases o2
  have hscr : SqL K (scrH K a vs ns) a (ns.map V.int) := by
    cases hk : K.lookup a with
    | none => exact .inl (.inr ⟨_, if_pos ⟨rfl, hk⟩⟩)
    | some o =>
      have e := KX a o hk
      rw [ha] at e
      cases e
      exact .inr ⟨_, vs.toArray, _, hk, rfl, rfl, rfl, by rw [List.size_toArray, hi.length]; exact hl, by simpa using rv⟩
  have sm : Same (scrH K a vs ns) (scrT K a vs ns ts) := fun b u e => by unfold scrT; rw [e]
  have hsp : spG T K mg sem [.ref a] (scrT K a vs ns ts) (fun v _ => v = .bl true) fun _ _ _ => False := by
    obtain ⟨e, hs⟩ := hsem
    refine ⟨[.fz (scD ns)], scrH K a vs ns, ⟨rfl, sm, fun i d q => ?_, fun i ds q => ?_, fun i j ds es b q => ?_, ⟨fun t ht => ?_, fun b ps z => ?_⟩⟩, ?_⟩
    · match i, q with
      | 0, q =>
        cases q
        exact ⟨.ref a, rfl, .scr hscr⟩
      | i + 1, q => simp at q
    · match i, q with
      | 0, q => cases q
      | i + 1, q => simp at q
    · match i, q with
      | 0, q => cases q
      | i + 1, q => simp at q
    · obtain ⟨p, hp, e⟩ := tT t ht
      rw [show t = (t.1, t.2) from rfl, e]
      exact LamX.TabS.nil (tabH _ (inT p hp))
    · obtain ⟨_, _, z3⟩ := scrH_some z
      cases z3
    · rw [hs]
      intro v H' Hf' E' X' r
      have r' : Dr K Hf' v (.bool true) := r
      cases r'
      rfl
  refine codeAny_mono ((F _ hK (toNs hns) TB).go callerA [] s₁ _ ⟨[.ref a], []⟩ [.ref a] [.ref a] _ _ rfl hr e0 (hbind s₁ (.ref a)) (.cons rfl .nil) hsp) fun r s' h => ?_
  match r, h with
  | .error u, h =>
    obtain ⟨_, _, _, _, _, _, _, _, _, _, _, _, z⟩ := h
    exact z.elim
  | .ok .next, h => exact h.elim
  | .ok .brk, h => exact h.elim
  | .ok .cont, h => exact h.elim
  | .ok (.ret u), h =>
    obtain ⟨v, H', os, bare, un, hok', r', q⟩ := h
    cases (show v = .bl true from q)
    cases (show u = Value.bool true from r')
    have stays : ∀ b o, b ∉ ts → s₁.heap.get? b = some o → s'.heap.get? b = some o := fun b o nb e => by
      cases q : scrT K a vs ns ts b with
      | none => exact un.keep b o e q (fun z => absurd (show b ∈ ([] : List Addr) from z) (by simp)) (by simp)
      | some u =>
        rcases scrT_some q with z | ⟨z, _⟩
        · obtain ⟨z1, z2, z3⟩ := scrH_some z
          rw [z3] at q
          obtain ⟨e2, _⟩ := hok' b _ (un.frzs b _ _ q)
          rw [z1] at e e2 ⊢
          rw [ha] at e
          cases e
          exact e2
        · exact absurd z nb
    have grows : ∀ b ∈ ts, ∃ more : Array Value, s'.heap.get? b = some { cls := .none, data := .fields more } := fun b hb => by
      obtain ⟨more, z⟩ := un.tbls b #[] (tabH b hb)
      exact ⟨_, hok' b _ z⟩
    refine ⟨rfl, ⟨fun b o e => ?_, fun b o e => ?_⟩, os, bare⟩
    · by_cases hb : b ∈ ts
      · obtain ⟨more, hm⟩ := grows b hb
        obtain ⟨p, hp, rfl⟩ := ofT b hb
        rw [eT p hp] at e
        cases e
        exact .inr (.inl ⟨((cT p hp).tab (eT p hp)).isCodeTable, rfl, #[], more, rfl, by rw [Array.empty_append]; exact hm⟩)
      · exact .inl (stays b o hb e)
    · by_cases hb : b ∈ ts
      · obtain ⟨more, hm⟩ := grows b hb
        exact ⟨_, hm⟩
      · exact ⟨o, stays b o hb e⟩
end
/-- a law with tables: F tells the written part, the tables, the law's def and what it does -/
theorem law_walkT {l : PySem.W.OpenLaw} {n k : Nat} {q : Program} {loose : List Str} {XP : (Str → Option Value) → Heap → Prop} {YP : World → Heap → Prop} {d : DefRec} {x : Str}
    (hn : l.most = some n) (hn2 : n ≤ sizeLine) (hdf : d.params.defaults = []) (hr : Room k callerA)
    (F : ∀ (w : World) (mg : Str → Option Value) (fa : Addr) (h : Heap), YP w h → h.Ns mainGlobals mg → mg d.name = some (.ref fa) →
      ∃ (K : PySem.W.Frag) (fd : FuncData) (sem : DM Val) (T : Tb) (cs : List (Addr × Addr)), K.In h ∧ (∀ p ∈ cs, h.get? p.2 = some { cls := .none, data := .fields #[] }) ∧ (∀ p ∈ cs, K.lookup p.2 = none) ∧ (∀ p ∈ cs, PySem.W.CodeHd h p.1 p.2) ∧ (∀ t ∈ T, ∃ p ∈ cs, t.1 = p.2) ∧
        (∀ (s : Shared) (u : Value), BindsTo s fd ⟨[u], []⟩ [(x, u)]) ∧ (∀ ns : List Int, ns.length ≤ n → (∀ z ∈ ns, Builtin.Int.intBits z ≤ 1048576) → ∃ e, sem [.fz (scD ns)] = .ok (.fz (.bool true)) e) ∧
        ∀ base : Heap, K.In base → base.Ns mainGlobals mg → (∀ p ∈ cs, LamX.TabB base mg p.1 p.2) → FnG l.prog w K mg base k fa fd [x] (spG T K mg sem)) :
    PySem.W.WalkO q loose XP YP l.row.toRowW d [] (fun f vs => PySem.call f vs) := by
  refine Att.attach_callB hn hdf fun w s₀ s₁ mg mb fa o pm cd doc a vs ns G Y ho hd hcd hmg hobj hints hlen hbits hg => ?_
  obtain ⟨K, fd, sem, T, cs, KX, eT, oT, cT, tT, hb, hs, hF⟩ := F w mg fa _ Y G.T.g hmg
  exact end_callT KX G.T.g G.T.b G.T.builtins G.T.nolimit hg eT oT cT tT G.T.bmain hobj hints (Nat.le_trans hlen hn2) hr hF hb (hs ns hlen hbits)
end DL

/-! DL19: comprehensions and loops of plain steps. -/
namespace DL
open PySem PySem.Spec PyProof.Rows L2

theorem set_same {α : Type} {l : List α} {i : Nat} {a : α} (h : l[i]? = some a) : l.set i a = l := by
  refine List.ext_getElem? fun j => ?_
  by_cases hj : i = j
  · subst hj
    rw [List.getElem?_set_self (List.getElem?_eq_some_iff.mp h).1, h]
  · rw [List.getElem?_set_ne hj]
theorem compL_pure {k : Nat} {cond : DM Bool} {elt : DM D} {e : DEnv} {f : D → Bool} {g : D → D} (hk : e[k]? = some .no) : ∀ (ds acc : List D), (∀ d ∈ ds, cond (e.set k (.fz d)) = .ok (f d) (e.set k (.fz d))) → (∀ d ∈ ds, f d = true → elt (e.set k (.fz d)) = .ok (g d) (e.set k (.fz d))) →
    compL (.nm k) cond elt ds acc e = .ok (acc ++ (ds.filter f).map g) e
  | [], acc, _, _ => by simp [compL]
  | d :: r, acc, hc, he => by
    have h1 := hc d (List.mem_cons_self ..)
    have ih := fun acc => compL_pure hk r acc (fun x hx => hc x (List.mem_cons_of_mem _ hx)) fun x hx => he x (List.mem_cons_of_mem _ hx)
    have back : (e.set k (.fz d)).set k .no = e := by rw [List.set_set, set_same hk]
    unfold compL
    simp only [ctV, h1]
    cases hf : f d with
    | true =>
      have h2 := he d (List.mem_cons_self ..) hf
      simp only [h2, CT.is, wipeE, back, ih]
      rw [List.filter_cons, hf, if_pos rfl, List.map_cons, List.append_assoc]
      rfl
    | false =>
      simp only [CT.is, wipeE, back, ih]
      rw [List.filter_cons, hf, if_neg Bool.false_ne_true]
theorem comp_pure {k : Nat} {it : DM (List D)} {cond : DM Bool} {elt : DM D} {e : DEnv} {ds : List D} {f : D → Bool} {g : D → D} (hi : it e = .ok ds e) (hk : e[k]? = some .no) (hl : ds.length ≤ 1000000) (hc : ∀ d ∈ ds, cond (e.set k (.fz d)) = .ok (f d) (e.set k (.fz d)))
    (he : ∀ d ∈ ds, f d = true → elt (e.set k (.fz d)) = .ok (g d) (e.set k (.fz d))) : mComp it (.nm k) cond elt e = .ok (.ow ((ds.filter f).map g)) e := by
  have h := compL_pure hk ds [] hc he
  unfold mComp
  simp only [hi, DRes.andThen, if_pos hl, CT.is, wipeE, set_same hk, h, restE, List.nil_append]
  rw [List.getD_eq_getElem?_getD, hk]
  simp [set_same hk]
/-- over a frozen sequence in a slot -/
theorem compO_pure {L i k : Nat} {cond : DM Bool} {elt : DM D} {e : DEnv} {ds : List D} {f : D → Bool} {g : D → D} (hi : e[i]? = some (.fz (.tuple ds)) ∨ e[i]? = some (.fz (.list ds))) (hk : e[k]? = some .no) (hl : ds.length ≤ 1000000)
    (hc : ∀ d ∈ ds, cond (e.set k (.fz d)) = .ok (f d) (e.set k (.fz d))) (he : ∀ d ∈ ds, f d = true → elt (e.set k (.fz d)) = .ok (g d) (e.set k (.fz d))) : mCompO L i (.nm k) cond elt e = .ok (.ow ((ds.filter f).map g)) e := by
  have h : mSeqIt (mFz (mV L i)) e = .ok ds e := by
    rcases hi with hi | hi <;> simp [mSeqIt, mFz, mV, hi, DRes.andThen, Val.d]
  rw [← comp_pure h hk hl hc he]
  unfold mCompO
  rcases hi with hi | hi <;> simp only [hi]
/-- over an own list in a slot -/
theorem compO_own {L i k : Nat} {cond : DM Bool} {elt : DM D} {e : DEnv} {ds : List D} {f : D → Bool} {g : D → D} (hi : e[i]? = some (.ow ds)) (hik : i ≠ k) (hk : e[k]? = some .no) (hl : ds.length ≤ 1000000)
    (hc : ∀ d ∈ ds, cond ((e.set i .no).set k (.fz d)) = .ok (f d) ((e.set i .no).set k (.fz d))) (he : ∀ d ∈ ds, f d = true → elt ((e.set i .no).set k (.fz d)) = .ok (g d) ((e.set i .no).set k (.fz d))) : mCompO L i (.nm k) cond elt e = .ok (.ow ((ds.filter f).map g)) e := by
  have il : i < e.length := (List.getElem?_eq_some_iff.mp hi).1
  have hk' : (e.set i .no)[k]? = some .no := by rw [List.getElem?_set_ne hik]; exact hk
  have h := compL_pure hk' ds [] hc he
  unfold mCompO
  simp only [hi, CT.is, List.mem_singleton, if_neg hik, if_pos hl, wipeE, set_same hk', h, restE, List.nil_append]
  rw [List.getD_eq_getElem?_getD, hk']
  simp only [Option.getD_some, set_same hk', List.getElem?_set_self il, List.set_set, set_same hi]
/-- an invariant of a loop -/
theorem for_inv {L : Nat} {t : Tgt} {body : SM} (I : DEnv → Prop) : ∀ (ds : List D) (e : DEnv), (∀ d ∈ ds, ∀ e, I e → ∃ e1 e2, tgV L t (.fz d) e = .ok () e1 ∧ body e1 = .nx e2 ∧ I e2) → I e → ∃ e', forL L t body ds e = .nx e' ∧ I e'
  | [], e, _, h => ⟨e, rfl, h⟩
  | d :: r, e, hs, h => by
    obtain ⟨e1, e2, h1, h2, h3⟩ := hs d (List.mem_cons_self ..) e h
    obtain ⟨e', g1, g2⟩ := for_inv I r e2 (fun x hx => hs x (List.mem_cons_of_mem _ hx)) h3
    refine ⟨e', ?_, g2⟩
    unfold forL
    simp only [h1, DRes.stm, h2, g1]
/-- an invariant by the turn -/
theorem for_ix {L : Nat} {t : Tgt} {body : SM} (I : Nat → DEnv → Prop) : ∀ (ds : List D) (k : Nat) (e : DEnv), (∀ i d e, ds[i]? = some d → I (k + i) e → ∃ e1 e2, tgV L t (.fz d) e = .ok () e1 ∧ body e1 = .nx e2 ∧ I (k + i + 1) e2) → I k e → ∃ e', forL L t body ds e = .nx e' ∧ I (k + ds.length) e'
  | [], k, e, _, h => ⟨e, rfl, h⟩
  | d :: r, k, e, hs, h => by
    obtain ⟨e1, e2, h1, h2, h3⟩ := hs 0 d e rfl h
    obtain ⟨e', g1, g2⟩ := for_ix I r (k + 1) e2 (fun i x e hx hi => by
      have := hs (i + 1) x e (by simpa using hx) (by rw [show k + (i + 1) = k + 1 + i by omega]; exact hi)
      rw [show k + (i + 1) + 1 = k + 1 + i + 1 by omega] at this
      exact this) h3
    refine ⟨e', ?_, by rw [List.length_cons, show k + (r.length + 1) = k + 1 + r.length by omega]; exact g2⟩
    unfold forL
    simp only [h1, DRes.stm, h2, g1]
theorem range_at {n i : Nat} {d : D} (h : (rangeD 0 n)[i]? = some d) : i < n ∧ d = .int i := by
  unfold rangeD at h
  rw [List.getElem?_map] at h
  obtain ⟨k, h1, h2⟩ := Option.map_eq_some_iff.mp h
  obtain ⟨h3, h4⟩ := List.getElem?_eq_some_iff.mp h1
  simp at h3 h4
  subst h4
  exact ⟨h3, by rw [← h2, Int.zero_add]⟩
theorem bools_of {α : Type} (f : α → Bool) : ∀ l : List α, boolsOf (l.map fun x => PyData.bool (f x)) = some (l.map f)
  | [] => rfl
  | x :: r => by
    simp only [List.map_cons, boolsOf, bools_of f r]
    rfl
/-! ### how a run goes on: rows for simp, each of a run that is applied -/
section
variable {e : DEnv} {m m' : DM Val} {md : DM D} {t t' : DM Bool} {o o' o'' : Opd} {g g' : D → D → Option Val} {gc gc' : D → D → Option Bool} {g1 : D → Option Val}
theorem x_fz : mFz m e = match m e with | .ok v e' => .ok v.d e' | .exc x e' => .exc x e' | .bad => .bad := by
  unfold mFz; cases m e <;> rfl
theorem x_ex : (Opd.ex md).ev e = match md e with | .ok v e' => .ok (some v) e' | .exc x e' => .exc x e' | .bad => .bad := by
  show (md e).andThen _ = _; cases md e <;> rfl
theorem x_nm {i : Nat} : (Opd.nm i).ev e = match slotD e i with | some _ => .ok none e | none => .bad := rfl
theorem x_op : mOp g o o' e = match o.ev e with
    | .ok x e1 => match o'.ev e1 with
      | .ok y e2 => match o.now x e2, o'.now y e2 with
        | some d, some d' => match g d d' with
          | some v => .ok v e2
          | none => .bad
        | _, _ => .bad
      | .exc x e' => .exc x e'
      | .bad => .bad
    | .exc x e' => .exc x e'
    | .bad => .bad := by
  unfold mOp
  simp only [DRes.andThen]
  cases o.ev e with
  | ok x e1 =>
    dsimp only
    cases o'.ev e1 with
    | ok y e2 =>
      dsimp only
      cases o.now x e2 <;> cases o'.now y e2 <;> rfl
    | _ => rfl
  | _ => rfl
theorem x_op1 : mOp1 g1 o e = match o.ev e with
    | .ok x e1 => match o.now x e1 with
      | some d => match g1 d with
        | some v => .ok v e1
        | none => .bad
      | none => .bad
    | .exc x e' => .exc x e'
    | .bad => .bad := by
  unfold mOp1
  simp only [DRes.andThen]
  cases o.ev e with
  | ok x e1 =>
    dsimp only
    cases o.now x e1 <;> rfl
  | _ => rfl
theorem x_cmp : mCmp gc o o' e = match o.ev e with
    | .ok x e1 => match o'.ev e1 with
      | .ok y e2 => match o.now x e2, o'.now y e2 with
        | some d, some d' => match gc d d' with
          | some v => .ok v e2
          | none => .bad
        | _, _ => .bad
      | .exc x e' => .exc x e'
      | .bad => .bad
    | .exc x e' => .exc x e'
    | .bad => .bad := by
  unfold mCmp
  simp only [DRes.andThen]
  cases o.ev e with
  | ok x e1 =>
    dsimp only
    cases o'.ev e1 with
    | ok y e2 =>
      dsimp only
      cases o.now x e2 <;> cases o'.now y e2 <;> rfl
    | _ => rfl
  | _ => rfl
theorem x_if {α : Type} {a b : DM α} : mIf t a b e = match t e with | .ok k e1 => (if k = true then a e1 else b e1) | .exc x e' => .exc x e' | .bad => .bad := by
  unfold mIf; cases t e <;> rfl
theorem x_and : mAnd t t' e = match t e with | .ok k e1 => (if k = true then t' e1 else .ok false e1) | .exc x e' => .exc x e' | .bad => .bad := by
  unfold mAnd; cases t e <;> rfl
theorem x_or : mOr t t' e = match t e with | .ok k e1 => (if k = true then .ok true e1 else t' e1) | .exc x e' => .exc x e' | .bad => .bad := by
  unfold mOr; cases t e <;> rfl
theorem x_not : mNot t e = match t e with | .ok k e1 => .ok (!k) e1 | .exc x e' => .exc x e' | .bad => .bad := by
  unfold mNot; cases t e <;> rfl
theorem x_andV : mAndV t m e = match t e with | .ok k e1 => (if k = true then m e1 else .ok (.fz (.bool false)) e1) | .exc x e' => .exc x e' | .bad => .bad := by
  unfold mAndV; cases t e <;> rfl
theorem x_orV : mOrV t m e = match t e with | .ok k e1 => (if k = true then .ok (.fz (.bool true)) e1 else m e1) | .exc x e' => .exc x e' | .bad => .bad := by
  unfold mOrV; cases t e <;> rfl
theorem x_bv : mBV t e = match t e with | .ok k e1 => .ok (.fz (.bool k)) e1 | .exc x e' => .exc x e' | .bad => .bad := by
  unfold mBV; cases t e <;> rfl
theorem x_notV : mNotV t e = match t e with | .ok k e1 => .ok (.fz (.bool (!k))) e1 | .exc x e' => .exc x e' | .bad => .bad := by
  unfold mNotV mBV mNot; cases t e <;> rfl
theorem x_tru : mTru o e = match o.ev e with
    | .ok x e1 => match o.now x e1 with
      | some d => match gTru d with
        | some v => .ok v e1
        | none => .bad
      | none => .bad
    | .exc x e' => .exc x e'
    | .bad => .bad := by
  unfold mTru
  simp only [DRes.andThen]
  cases o.ev e with
  | ok x e1 =>
    dsimp only
    cases o.now x e1 <;> rfl
  | _ => rfl
theorem x_all0 : mAll [] e = .ok [] e := rfl
theorem x_all {r : List (DM D)} : mAll (md :: r) e = match md e with
    | .ok d e1 => match mAll r e1 with
      | .ok ds e2 => .ok (d :: ds) e2
      | .exc x e' => .exc x e'
      | .bad => .bad
    | .exc x e' => .exc x e'
    | .bad => .bad := by
  show (md e).andThen _ = _
  cases md e with
  | ok d e1 => dsimp only; show (mAll r e1).andThen _ = _; cases mAll r e1 <;> rfl
  | _ => rfl
theorem x_tup {ml : DM (List D)} : mTup ml e = match ml e with | .ok ds e1 => .ok (.fz (.tuple ds)) e1 | .exc x e' => .exc x e' | .bad => .bad := by
  unfold mTup; cases ml e <;> rfl
theorem x_lst {ml : DM (List D)} : mLst ml e = match ml e with | .ok ds e1 => .ok (.ow ds) e1 | .exc x e' => .exc x e' | .bad => .bad := by
  unfold mLst; cases ml e <;> rfl
theorem x_tob : mToB m e = match m e with | .ok (.fz (.bool k)) e1 => .ok k e1 | .exc x e' => .exc x e' | _ => .bad := by
  unfold mToB
  cases m e with
  | ok v e1 =>
    cases v with
    | fz d => cases d <;> rfl
    | ow ds => rfl
  | _ => rfl
theorem x_c {d : D} : mC d e = .ok (.fz d) e := rfl
theorem x_v {L i : Nat} : mV L i e = match e[i]? with | some (.fz d) => .ok (.fz d) e | some (.ow ds) => (if i < L then .bad else .ok (.fz (.list ds)) (e.set i (.fz (.list ds)))) | _ => .bad := rfl
theorem s_retV {L i : Nat} : sRetV L i e = match e[i]? with | some (.fz d) => .rt (.fz d) e | some (.ow ds) => (if i < L then .bad else .rt (.ow ds) (e.set i .no)) | _ => .bad := rfl
theorem s_nx : sNx e = .nx e := rfl
theorem x_part0 : mPart none e = .ok none e := rfl
theorem x_part : mPart (some md) e = match md e with | .ok (.int i) e1 => .ok (some i) e1 | .exc x e' => .exc x e' | _ => .bad := by
  show (md e).andThen _ = _
  cases md e with
  | ok d e1 => cases d <;> rfl
  | _ => rfl
theorem x_sl {lo hi : Option (DM D)} : mSl o lo hi e = match o.ev e with
    | .ok x e1 => match mPart lo e1 with
      | .ok l e2 => match mPart hi e2 with
        | .ok h e3 => match o.now x e3 with
          | some d => match gSl l h d with
            | some v => .ok v e3
            | none => .bad
          | none => .bad
        | .exc x e' => .exc x e'
        | .bad => .bad
      | .exc x e' => .exc x e'
      | .bad => .bad
    | .exc x e' => .exc x e'
    | .bad => .bad := by
  unfold mSl
  simp only [DRes.andThen]
  cases o.ev e with
  | ok x e1 =>
    dsimp only
    cases mPart lo e1 with
    | ok l e2 =>
      dsimp only
      cases mPart hi e2 with
      | ok h e3 =>
        dsimp only
        cases o.now x e3 <;> rfl
      | _ => rfl
    | _ => rfl
  | _ => rfl
theorem x_args0 : mArgs [] e = .ok [] e := rfl
theorem x_argsS {i : Nat} {r : List Ar} : mArgs (.sl i :: r) e = match mArgs r e with | .ok ps e1 => .ok (.sl i :: ps) e1 | .exc x e' => .exc x e' | .bad => .bad := by
  show (mArgs r e).andThen _ = _; cases mArgs r e <;> rfl
theorem x_argsE {r : List Ar} : mArgs (.ex md :: r) e = match md e with
    | .ok d e1 => match mArgs r e1 with
      | .ok ps e2 => .ok (.fz d :: ps) e2
      | .exc x e' => .exc x e'
      | .bad => .bad
    | .exc x e' => .exc x e'
    | .bad => .bad := by
  show (md e).andThen _ = _
  cases md e with
  | ok d e1 => dsimp only; show (mArgs r e1).andThen _ = _; cases mArgs r e1 <;> rfl
  | _ => rfl
theorem x_argsO : mArgs [.own m] e = match m e with | .ok (.fz d) e1 => .ok [.fz d] e1 | .ok (.ow ds) e1 => .ok [.ow ds] e1 | .exc x e' => .exc x e' | .bad => .bad := by
  show (m e).andThen _ = _
  cases m e with
  | ok v e1 => cases v <;> rfl
  | _ => rfl
theorem x_call {sem : DM Val} {l : List Ar} : mCall' sem l e = if slotsOk l e = true then (match mArgs l e with | .ok ps e1 => callF sem ps e1 | .exc x e' => .exc x e' | .bad => .bad) else .bad := by
  unfold mCall' mCall; cases mArgs l e <;> rfl
theorem x_callF {sem : DM Val} {ps : List Pas} : callF sem ps e = match cellsOf e ps with
    | none => .bad
    | some cs => if (lentOf e ps).Nodup then (match sem cs with
      | .ok v os => if os.length = cs.length then .ok v (backTo' e ps os) else .bad
      | .exc x os => if os.length = cs.length then .exc x (backTo' e ps os) else .bad
      | .bad => .bad) else .bad := by
  unfold callF; cases cellsOf e ps <;> rfl
theorem x_callK {sem : DM Val} {ks ps : List Str} {ms : List (DM D)} : mCallK sem ks ps ms e = match mAll ms e with
    | .ok ds e1 => if ds.length = ks.length then callF sem ((reord .none ks ps ds).map Pas.fz) e1 else .bad
    | .exc x e' => .exc x e'
    | .bad => .bad := by
  unfold mCallK; cases mAll ms e <;> rfl
theorem x_app {i : Nat} : mApp' i md e = if isOw e i = true then (match md e with
    | .ok d e1 => match e1[i]? with
      | some (.ow ds) => if ds.length ≤ 1000000 then .ok (.fz .none) (e1.set i (.ow (ds ++ [d]))) else .bad
      | _ => .bad
    | .exc x e' => .exc x e'
    | .bad => .bad) else .bad := by
  unfold mApp' mApp; cases md e <;> rfl
theorem x_vals0 : mVals [] e = .ok [] e := rfl
theorem x_vals {r : List (DM Val)} : mVals (m :: r) e = match m e with
    | .ok d e1 => match mVals r e1 with
      | .ok ds e2 => .ok (d :: ds) e2
      | .exc x e' => .exc x e'
      | .bad => .bad
    | .exc x e' => .exc x e'
    | .bad => .bad := by
  show (m e).andThen _ = _
  cases m e with
  | ok d e1 => dsimp only; show (mVals r e1).andThen _ = _; cases mVals r e1 <;> rfl
  | _ => rfl
theorem s_seq {a b : SM} : sSeq a b e = match a e with | .nx e1 => b e1 | .rt v e1 => .rt v e1 | .brk e1 => .brk e1 | .cnt e1 => .cnt e1 | .exc x e1 => .exc x e1 | .bad => .bad := by
  unfold sSeq; cases a e <;> rfl
theorem s_if {a b : SM} : sIf t a b e = match t e with | .ok k e1 => (if k = true then a e1 else b e1) | .exc x e' => .exc x e' | .bad => .bad := by
  unfold sIf; cases t e <;> rfl
theorem s_ret : sRet m e = match m e with | .ok v e1 => .rt v e1 | .exc x e' => .exc x e' | .bad => .bad := by
  unfold sRet; cases m e <;> rfl
theorem s_drop : sDrop m e = match m e with | .ok _ e1 => .nx e1 | .exc x e' => .exc x e' | .bad => .bad := by
  unfold sDrop; cases m e <;> rfl
theorem s_asg {L : Nat} {tg : Tgt} : sAsg L m tg e = match m e with
    | .ok v e1 => match tgV L tg v e1 with
      | .ok _ e2 => .nx e2
      | .exc x e' => .exc x e'
      | .bad => .bad
    | .exc x e' => .exc x e'
    | .bad => .bad := by
  unfold sAsg
  cases m e with
  | ok v e1 => dsimp only; show (tgV L tg v e1).stm _ = _; cases tgV L tg v e1 <;> rfl
  | _ => rfl
theorem s_par {L : Nat} {is : List Nat} {ms : List (DM Val)} : sPar L is ms e = match mVals ms e with
    | .ok as e1 => match puts L is as e1 with
      | .ok _ e2 => .nx e2
      | .exc x e' => .exc x e'
      | .bad => .bad
    | .exc x e' => .exc x e'
    | .bad => .bad := by
  unfold sPar
  cases mVals ms e with
  | ok v e1 => dsimp only; show (puts L is v e1).stm _ = _; cases puts L is v e1 <;> rfl
  | _ => rfl
theorem s_for {L : Nat} {it : DM (List D)} {tg : Tgt} {body : SM} : sFor L it tg body e = match it e with | .ok ds e1 => forL L tg body ds e1 | .exc x e' => .exc x e' | .bad => .bad := by
  unfold sFor; cases it e <;> rfl
theorem x_seqIt : mSeqIt md e = match md e with | .ok (.list ds) e1 => .ok ds e1 | .ok (.tuple ds) e1 => .ok ds e1 | .exc x e' => .exc x e' | _ => .bad := by
  unfold mSeqIt
  cases md e with
  | ok d e1 => cases d <;> rfl
  | _ => rfl
theorem x_rng : mRange1 o e = match o.ev e with
    | .ok x e1 => match o.now x e1 with
      | some (.int j) => if -(2 ^ 62) ≤ j ∧ j < 2 ^ 62 then .ok (rangeD 0 j.toNat) e1 else .bad
      | _ => .bad
    | .exc x e' => .exc x e'
    | .bad => .bad := by
  unfold mRange1; cases o.ev e <;> rfl
theorem t_nm {L i : Nat} {v : Val} : tgV L (.nm i) v e = if i < L then .bad else .ok () (e.set i v.cell) := rfl
theorem t_sub {L i : Nat} {v : Val} : tgV L (.sub i md) v e = if isOw e i = true then (match md e with
    | .ok k e1 => (match k, e1[i]? with
      | .int k, some (.ow ds) => match ixN ds.length k with
        | some j => .ok () (e1.set i (.ow (ds.set j v.d)))
        | none => .bad
      | _, _ => .bad)
    | .exc x e' => .exc x e'
    | .bad => .bad) else .bad := by
  show (if isOw e i = true then (md e).andThen _ else _) = _
  cases md e <;> rfl
theorem t_tup {L : Nat} {ts : Tgts} {v : Val} : tgV L (.tup ts) v e = match v with | .fz (.tuple ds) => (if ds.length = ts.len then tgsV L ts ds e else .bad) | _ => .bad := rfl
theorem t_nil {L : Nat} : tgsV L .nil [] e = .ok () e := rfl
theorem t_cons {L : Nat} {tg : Tgt} {r : Tgts} {d : D} {ds : List D} : tgsV L (.cons tg r) (d :: ds) e = match tgV L tg (.fz d) e with | .ok _ e1 => tgsV L r ds e1 | .exc x e' => .exc x e' | .bad => .bad := by
  show (tgV L tg (.fz d) e).andThen _ = _; cases tgV L tg (.fz d) e <;> rfl
theorem x_run {np nn : Nat} {sm : SM} : runF np nn sm e = if e.length = np then (match sm (pad nn e) with | .nx e1 => .ok (.fz .none) (e1.take np) | .rt a e1 => .ok a (e1.take np) | .exc x e1 => .exc x (e1.take np) | _ => .bad) else .bad := rfl
end
end DL

set_option maxHeartbeats 16000000
/-! K10: the defs of the law, compiled; their facts. -/
namespace K10
open PySem PySem.Spec PyProof.Rows L2 DL
abbrev TOP (i : Nat) : Stmt := PySem.Challenge.pw_datedlayers_k10_any_values_as_numbers_li.main.body.getD i (.Pass ⟨0, 0, 0, 0⟩)
abbrev s_law_heard : Stmt := TOP 30
def h_law_heard : Hd := ⟨"InvalidLayers", [.rep "value", .isG "DigError", .isT "ValueError"], [("DigError", true)], [("ValueError", true)]⟩
theorem c_law_heard : cHeard (defScope s_law_heard) ["ValueError", "isinstance", "repr"] "call" (defBody s_law_heard) = some ⟨"found", "InvalidLayers", "e", h_law_heard.hx⟩ := by rfl
theorem sc_law_heard : FnScope ["call", "found", "e"] ["call"] (defScope s_law_heard) := ⟨rfl, rfl, rfl, by decide +kernel, rfl, by decide +kernel, by decide +kernel⟩

/-! ### _law_draw -/
abbrev s_law_draw : Stmt := TOP 22
def S_law_draw : Sc := { N := ["pot", "many", "digit"], sc := defScope s_law_draw, own := ["pot", "many", "digit"], T := [], G := [], Xs := [], fr := ["divmod", "int"], lv := 0, L := 2, Hs := [], tb := none }
def m_law_draw : SM :=
    (sSeq (sIf (mCmp gGtX (.ex (mFz (mOp gIx (.nm 0) (.ex (mFz (mC (.int 0))))))) (.ex (mFz (mC (.int 0))))) (sSeq (sAsg 2 (mOp gDivmod (.ex (mFz (mOp gIx (.nm 0) (.ex (mFz (mC (.int 0))))))) (.nm 1)) (.tup (.cons (.sub 0 (mFz (mC (.int 0)))) (.cons (.nm 2) .nil))))
    (sSeq (sRetV 2 2)
    sNx)) sNx)
    (sSeq (sAsg 2 (mOp gModI (.ex (mFz (mOp1 gInt (.ex (mFz (mOp gAddX (.ex (mFz (mOp gMulX (.ex (mFz (mOp gIx (.nm 0) (.ex (mFz (mC (.int 1))))))) (.ex (mFz (mC (.int 40014))))))) (.ex (mFz (mC (.int 1237)))))))))) (.ex (mFz (mC (.int 2147483563))))) (.sub 0 (mFz (mC (.int 1)))))
    (sSeq (sRet (mOp gModI (.ex (mFz (mOp1 gInt (.ex (mFz (mOp gDivI (.ex (mFz (mOp gModI (.ex (mFz (mOp1 gInt (.ex (mFz (mOp gMulX (.ex (mFz (mOp gIx (.nm 0) (.ex (mFz (mC (.int 1))))))) (.ex (mFz (mOp gIx (.nm 0) (.ex (mFz (mC (.int 1))))))))))))) (.ex (mFz (mC (.int 2147483549))))))) (.ex (mFz (mC (.int 17)))))))))) (.nm 1)))
    sNx)))
def f_law_draw : Fn := ⟨["pot", "many"], 1, [true, false], [], runF 2 3 m_law_draw⟩
theorem c_law_draw : cSs 60 S_law_draw (defBody s_law_draw) = some m_law_draw := by rfl
theorem sc_law_draw : FnScope S_law_draw.N ["pot", "many"] (defScope s_law_draw) := ⟨rfl, rfl, rfl, by decide +kernel, rfl, by decide +kernel, by decide +kernel⟩

/-! ### _law_pick -/
abbrev s_law_pick : Stmt := TOP 23
def S_law_pick : Sc := { N := ["pot", "some"], sc := defScope s_law_pick, own := ["pot", "some"], T := [("_law_draw", f_law_draw)], G := [], Xs := [], fr := ["len"], lv := 1, L := 2, Hs := [], tb := none }
def m_law_pick : SM :=
    (sSeq (sRet (mOp gIx (.nm 1) (.ex (mFz (mCall' f_law_draw.sem [.sl 0, .ex (mFz (mOp1 gLen (.nm 1)))])))))
    sNx)
def f_law_pick : Fn := ⟨["pot", "some"], 2, [true, false], [], runF 2 2 m_law_pick⟩
theorem c_law_pick : cSs 60 S_law_pick (defBody s_law_pick) = some m_law_pick := by rfl
theorem sc_law_pick : FnScope S_law_pick.N ["pot", "some"] (defScope s_law_pick) := ⟨rfl, rfl, rfl, by decide +kernel, rfl, by decide +kernel, by decide +kernel⟩

/-! ### _law_odd -/
abbrev s_law_odd : Stmt := TOP 27
def S_law_odd : Sc := { N := ["pot"], sc := defScope s_law_odd, own := ["pot"], T := [("_law_pick", f_law_pick)], G := [], Xs := [], fr := [], lv := 2, L := 1, Hs := [], tb := none }
def m_law_odd : SM :=
    (sSeq (sRet (mCall' f_law_pick.sem [.sl 0, .ex (mFz (mLst (mAll [(mFz (mC .none)), (mFz (mC (.bool true))), (mFz (mC (.bool false))), (mFz (mC (.str ""))), (mFz (mC (.str "0"))), (mFz (mTup (mAll []))), (mFz (mLst (mAll []))), (mFz (mC (.dict []))), (mFz (mTup (mAll [(mFz (mC (.int 0)))]))), (mFz (mLst (mAll [(mFz (mC (.int 0)))]))), (mFz (mC (.str "after"))), (mFz (mOp1 gNeg (.ex (mFz (mC (.int 1)))))), (mFz (mC (.int 0))), (mFz (mC (.int 1))), (mFz (mC (.int 40))), (mFz (mOp gPowI (.ex (mFz (mC (.int 10)))) (.ex (mFz (mC (.int 29)))))), (mFz (mOp gSubI (.ex (mFz (mC (.int 0)))) (.ex (mFz (mOp gPowI (.ex (mFz (mC (.int 10)))) (.ex (mFz (mC (.int 29)))))))))])))]))
    sNx)
def f_law_odd : Fn := ⟨["pot"], 3, [true], [], runF 1 1 m_law_odd⟩
theorem c_law_odd : cSs 60 S_law_odd (defBody s_law_odd) = some m_law_odd := by rfl
theorem sc_law_odd : FnScope S_law_odd.N ["pot"] (defScope s_law_odd) := ⟨rfl, rfl, rfl, by decide +kernel, rfl, by decide +kernel, by decide +kernel⟩

/-! ### _law_near -/
abbrev s_law_near : Stmt := TOP 28
def S_law_near : Sc := { N := ["pot", "bound"], sc := defScope s_law_near, own := ["pot", "bound"], T := [("_law_draw", f_law_draw), ("_law_pick", f_law_pick)], G := [], Xs := [], fr := [], lv := 2, L := 1, Hs := [], tb := none }
def m_law_near : SM :=
    (sSeq (sAsg 1 (mCall' f_law_pick.sem [.sl 0, .ex (mFz (mLst (mAll [(mFz (mC (.int 0))), (mFz (mC (.int 1))), (mFz (mC (.int 39))), (mFz (mC (.int 40))), (mFz (mC (.int 9999))), (mFz (mC (.int 10000))), (mFz (mC (.int 99999))), (mFz (mC (.int 100000)))])))]) (.nm 1))
    (sSeq (sRet (mOp gMulX (.ex (mFz (mCall' f_law_pick.sem [.sl 0, .ex (mFz (mLst (mAll [(mFz (mC (.int 1))), (mFz (mOp1 gNeg (.ex (mFz (mC (.int 1))))))])))]))) (.ex (mFz (mOp gSubI (.ex (mFz (mOp gAddX (.nm 1) (.ex (mFz (mCall' f_law_draw.sem [.sl 0, .ex (mFz (mC (.int 3)))])))))) (.ex (mFz (mC (.int 1)))))))))
    sNx))
def f_law_near : Fn := ⟨["pot"], 3, [true], [], runF 1 2 m_law_near⟩
theorem c_law_near : cSs 60 S_law_near (defBody s_law_near) = some m_law_near := by rfl
theorem sc_law_near : FnScope S_law_near.N ["pot"] (defScope s_law_near) := ⟨rfl, rfl, rfl, by decide +kernel, rfl, by decide +kernel, by decide +kernel⟩

/-! ### _law_bent -/
abbrev s_law_bent : Stmt := TOP 29
def S_law_bent : Sc := { N := ["pot", "parts", "at", "way"], sc := defScope s_law_bent, own := ["pot", "parts", "at", "way"], T := [("_law_draw", f_law_draw), ("_law_pick", f_law_pick), ("_law_odd", f_law_odd), ("_law_near", f_law_near)], G := [], Xs := [], fr := ["len", "list", "tuple"], lv := 3, L := 2, Hs := [], tb := none }
def m_law_bent : SM :=
    (sSeq (sAsg 2 (mCall' f_law_draw.sem [.sl 0, .ex (mFz (mOp gMulX (.ex (mFz (mC (.int 2)))) (.ex (mFz (mOp1 gLen (.nm 1))))))]) (.nm 2))
    (sSeq (sIf (mCmp gLtX (.nm 2) (.ex (mFz (mOp1 gLen (.nm 1))))) (sSeq (sAsg 2 (mCall' f_law_pick.sem [.sl 0, .ex (mFz (mLst (mAll [(mFz (mCall' f_law_odd.sem [.sl 0])), (mFz (mCall' f_law_near.sem [.sl 0]))])))]) (.sub 1 (mFz (mV 2 2))))
    sNx) sNx)
    (sSeq (sAsg 2 (mCall' f_law_draw.sem [.sl 0, .ex (mFz (mC (.int 12)))]) (.nm 3))
    (sSeq (sIf (mCmp gEqX (.nm 3) (.ex (mFz (mC (.int 0))))) (sSeq (sRet (mOp1 gListOf (.nm 1)))
    sNx) sNx)
    (sSeq (sIf (mCmp gEqX (.nm 3) (.ex (mFz (mC (.int 1))))) (sSeq (sRet (mOp1 gTupOf (.ex (mFz (mSl (.nm 1) none (some (mFz (mOp1 gNeg (.ex (mFz (mC (.int 1))))))))))))
    sNx) sNx)
    (sSeq (sRet (mIf (mCmp gEqX (.nm 3) (.ex (mFz (mC (.int 2))))) (mOp1 gTupOf (.ex (mFz (mOp gAddX (.nm 1) (.ex (mFz (mLst (mAll [(mFz (mC (.int 0)))])))))))) (mOp1 gTupOf (.nm 1))))
    sNx))))))
def f_law_bent : Fn := ⟨["pot", "parts"], 4, [true, true], [], runF 2 4 m_law_bent⟩
theorem c_law_bent : cSs 60 S_law_bent (defBody s_law_bent) = some m_law_bent := by rfl
theorem sc_law_bent : FnScope S_law_bent.N ["pot", "parts"] (defScope s_law_bent) := ⟨rfl, rfl, rfl, by decide +kernel, rfl, by decide +kernel, by decide +kernel⟩

/-! ### _law_is_number -/
abbrev s_law_is_number : Stmt := TOP 24
def S_law_is_number : Sc := { N := ["value", "least", "most"], sc := defScope s_law_is_number, own := ["value", "least", "most"], T := [], G := [], Xs := [], fr := ["bool", "int", "isinstance"], lv := 0, L := 3, Hs := [], tb := none }
def m_law_is_number : SM :=
    (sSeq (sRet (mAndV (mToB (mOp1 (gIsi [.int]) (.nm 0))) (mAndV (mToB (mNotV (mToB (mOp1 (gIsi [.bool]) (.nm 0))))) (mBV (mChain gLeX gLeX (.nm 1) (.nm 0) (.nm 2))))))
    sNx)
def f_law_is_number : Fn := ⟨["value", "least", "most"], 1, [false, false, false], [], runF 3 3 m_law_is_number⟩
theorem c_law_is_number : cSs 60 S_law_is_number (defBody s_law_is_number) = some m_law_is_number := by rfl
theorem sc_law_is_number : FnScope S_law_is_number.N ["value", "least", "most"] (defScope s_law_is_number) := ⟨rfl, rfl, rfl, by decide +kernel, rfl, by decide +kernel, by decide +kernel⟩

/-! ### is_integer -/
abbrev s_is_integer : Stmt := TOP 5
def S_is_integer : Sc := { N := ["value"], sc := defScope s_is_integer, own := ["value"], T := [], G := [], Xs := [], fr := ["bool", "int", "isinstance"], lv := 0, L := 1, Hs := [], tb := none }
def m_is_integer : SM :=
    (sSeq (sRet (mAndV (mToB (mOp1 (gIsi [.int]) (.nm 0))) (mNotV (mToB (mOp1 (gIsi [.bool]) (.nm 0))))))
    sNx)
def f_is_integer : Fn := ⟨["value"], 1, [false], [], runF 1 1 m_is_integer⟩
theorem c_is_integer : cSs 60 S_is_integer (defBody s_is_integer) = some m_is_integer := by rfl
theorem sc_is_integer : FnScope S_is_integer.N ["value"] (defScope s_is_integer) := ⟨rfl, rfl, rfl, by decide +kernel, rfl, by decide +kernel, by decide +kernel⟩

/-! ### is_within -/
abbrev s_is_within : Stmt := TOP 7
def S_is_within : Sc := { N := ["value", "least", "most"], sc := defScope s_is_within, own := ["value", "least", "most"], T := [("is_integer", f_is_integer)], G := [], Xs := [], fr := [], lv := 1, L := 3, Hs := [], tb := none }
def m_is_within : SM :=
    (sSeq (sRet (mAndV (mToB (mCall' f_is_integer.sem [.ex (mFz (mV 3 0))])) (mBV (mChain gLeX gLeX (.nm 1) (.nm 0) (.nm 2)))))
    sNx)
def f_is_within : Fn := ⟨["value", "least", "most"], 2, [false, false, false], [], runF 3 3 m_is_within⟩
theorem c_is_within : cSs 60 S_is_within (defBody s_is_within) = some m_is_within := by rfl
theorem sc_is_within : FnScope S_is_within.N ["value", "least", "most"] (defScope s_is_within) := ⟨rfl, rfl, rfl, by decide +kernel, rfl, by decide +kernel, by decide +kernel⟩

/-! ### want_layers -/
abbrev s_want_layers : Stmt := TOP 17
def S_want_layers : Sc := { N := ["layers"], sc := defScope s_want_layers, own := ["layers"], T := [("is_within", f_is_within)], G := [("MOST_LAYERS", (.int 40))], Xs := [("InvalidLayers", "value")], fr := [], lv := 2, L := 1, Hs := [], tb := none }
def m_want_layers : SM :=
    (sSeq (sIf (mNot (mTru (.ex (mFz (mCall' f_is_within.sem [.ex (mFz (mV 1 0)), .ex (mFz (mC (.int 1))), .ex (mFz (mC (.int 40)))]))))) (sSeq (sRaise "InvalidLayers" "value" (mFz (mV 1 0)))
    sNx) sNx)
    sNx)
def f_want_layers : Fn := ⟨["layers"], 3, [false], [], runF 1 1 m_want_layers⟩
theorem c_want_layers : cSs 60 S_want_layers (defBody s_want_layers) = some m_want_layers := by rfl
theorem sc_want_layers : FnScope S_want_layers.N ["layers"] (defScope s_want_layers) := ⟨rfl, rfl, rfl, by decide +kernel, rfl, by decide +kernel, by decide +kernel⟩

/-! ### is_link_of -/
abbrev s_is_link_of : Stmt := TOP 15
def S_is_link_of : Sc := { N := ["layers", "value", "upper", "lower", "gap"], sc := defScope s_is_link_of, own := ["layers", "value", "upper", "lower", "gap"], T := [("is_within", f_is_within)], G := [("MOST_GAP", (.int 9999))], Xs := [], fr := ["isinstance", "len", "tuple"], lv := 2, L := 2, Hs := [], tb := none }
def m_is_link_of : SM :=
    (sSeq (sIf (mOr (mNot (mTru (.ex (mFz (mOp1 (gIsi [.tup]) (.nm 1)))))) (mCmp gNotIn (.ex (mFz (mOp1 gLen (.nm 1)))) (.ex (mFz (mTup (mAll [(mFz (mC (.int 0))), (mFz (mC (.int 3)))])))))) (sSeq (sRet (mC (.bool false)))
    sNx) sNx)
    (sSeq (sIf (mCmp gEqX (.nm 1) (.ex (mFz (mTup (mAll []))))) (sSeq (sRet (mC (.bool true)))
    sNx) sNx)
    (sSeq (sAsg 2 (mV 2 1) (.tup (.cons (.nm 2) (.cons (.nm 3) (.cons (.nm 4) .nil)))))
    (sSeq (sIf (mOr (mNot (mTru (.ex (mFz (mCall' f_is_within.sem [.ex (mFz (mV 2 2)), .ex (mFz (mC (.int 0))), .ex (mFz (mOp gSubI (.nm 0) (.ex (mFz (mC (.int 1))))))]))))) (mOr (mNot (mTru (.ex (mFz (mCall' f_is_within.sem [.ex (mFz (mV 2 3)), .ex (mFz (mC (.int 0))), .ex (mFz (mOp gSubI (.nm 0) (.ex (mFz (mC (.int 1))))))]))))) (mCmp gEqX (.nm 2) (.nm 3)))) (sSeq (sRet (mC (.bool false)))
    sNx) sNx)
    (sSeq (sRet (mCall' f_is_within.sem [.ex (mFz (mV 2 4)), .ex (mFz (mOp1 gNeg (.ex (mFz (mC (.int 9999)))))), .ex (mFz (mC (.int 9999)))]))
    sNx)))))
def f_is_link_of : Fn := ⟨["layers", "value"], 3, [false, false], [], runF 2 5 m_is_link_of⟩
theorem c_is_link_of : cSs 60 S_is_link_of (defBody s_is_link_of) = some m_is_link_of := by rfl
theorem sc_is_link_of : FnScope S_is_link_of.N ["layers", "value"] (defScope s_is_link_of) := ⟨rfl, rfl, rfl, by decide +kernel, rfl, by decide +kernel, by decide +kernel⟩

/-! ### is_link -/
abbrev s_is_link : Stmt := TOP 18
def S_is_link : Sc := { N := ["layers", "value"], sc := defScope s_is_link, own := ["layers", "value"], T := [("want_layers", f_want_layers), ("is_link_of", f_is_link_of)], G := [], Xs := [], fr := [], lv := 3, L := 2, Hs := [], tb := none }
def m_is_link : SM :=
    (sSeq (sDrop (mCall' f_want_layers.sem [.ex (mFz (mV 2 0))]))
    (sSeq (sRet (mCall' f_is_link_of.sem [.ex (mFz (mV 2 0)), .ex (mFz (mV 2 1))]))
    sNx))
def f_is_link : Fn := ⟨["layers", "value"], 4, [false, false], [["value", "layers"]], runF 2 2 m_is_link⟩
theorem c_is_link : cSs 60 S_is_link (defBody s_is_link) = some m_is_link := by rfl
theorem sc_is_link : FnScope S_is_link.N ["layers", "value"] (defScope s_is_link) := ⟨rfl, rfl, rfl, by decide +kernel, rfl, by decide +kernel, by decide +kernel⟩

/-! ### is_year -/
abbrev s_is_year : Stmt := TOP 8
def S_is_year : Sc := { N := ["value"], sc := defScope s_is_year, own := ["value"], T := [("is_within", f_is_within)], G := [("MOST_YEAR", (.int 99999))], Xs := [], fr := [], lv := 2, L := 1, Hs := [], tb := none }
def m_is_year : SM :=
    (sSeq (sRet (mCall' f_is_within.sem [.ex (mFz (mV 1 0)), .ex (mFz (mOp1 gNeg (.ex (mFz (mC (.int 99999)))))), .ex (mFz (mC (.int 99999)))]))
    sNx)
def f_is_year : Fn := ⟨["value"], 3, [false], [["value"]], runF 1 1 m_is_year⟩
theorem c_is_year : cSs 60 S_is_year (defBody s_is_year) = some m_is_year := by rfl
theorem sc_is_year : FnScope S_is_year.N ["value"] (defScope s_is_year) := ⟨rfl, rfl, rfl, by decide +kernel, rfl, by decide +kernel, by decide +kernel⟩

/-! ### is_find_of -/
abbrev s_is_find_of : Stmt := TOP 16
def S_is_find_of : Sc := { N := ["layers", "value", "sort", "layer", "year", "trust"], sc := defScope s_is_find_of, own := ["layers", "value", "sort", "layer", "year", "trust"], T := [("is_within", f_is_within), ("is_year", f_is_year)], G := [("AFTER", (.str "after")), ("BEFORE", (.str "before")), ("MOST_TRUST", (.int 9999))], Xs := [], fr := ["isinstance", "len", "str", "tuple"], lv := 3, L := 2, Hs := [], tb := none }
def m_is_find_of : SM :=
    (sSeq (sIf (mOr (mNot (mTru (.ex (mFz (mOp1 (gIsi [.tup]) (.nm 1)))))) (mCmp gNotIn (.ex (mFz (mOp1 gLen (.nm 1)))) (.ex (mFz (mTup (mAll [(mFz (mC (.int 0))), (mFz (mC (.int 4)))])))))) (sSeq (sRet (mC (.bool false)))
    sNx) sNx)
    (sSeq (sIf (mCmp gEqX (.nm 1) (.ex (mFz (mTup (mAll []))))) (sSeq (sRet (mC (.bool true)))
    sNx) sNx)
    (sSeq (sAsg 2 (mV 2 1) (.tup (.cons (.nm 2) (.cons (.nm 3) (.cons (.nm 4) (.cons (.nm 5) .nil))))))
    (sSeq (sIf (mOr (mNot (mTru (.ex (mFz (mOp1 (gIsi [.str]) (.nm 2)))))) (mCmp gNotIn (.nm 2) (.ex (mFz (mTup (mAll [(mFz (mC (.str "after"))), (mFz (mC (.str "before")))])))))) (sSeq (sRet (mC (.bool false)))
    sNx) sNx)
    (sSeq (sRet (mAndV (mToB (mCall' f_is_within.sem [.ex (mFz (mV 2 3)), .ex (mFz (mC (.int 0))), .ex (mFz (mOp gSubI (.nm 0) (.ex (mFz (mC (.int 1))))))])) (mAndV (mToB (mCall' f_is_year.sem [.ex (mFz (mV 2 4))])) (mCall' f_is_within.sem [.ex (mFz (mV 2 5)), .ex (mFz (mC (.int 1))), .ex (mFz (mC (.int 9999)))]))))
    sNx)))))
def f_is_find_of : Fn := ⟨["layers", "value"], 4, [false, false], [], runF 2 6 m_is_find_of⟩
theorem c_is_find_of : cSs 60 S_is_find_of (defBody s_is_find_of) = some m_is_find_of := by rfl
theorem sc_is_find_of : FnScope S_is_find_of.N ["layers", "value"] (defScope s_is_find_of) := ⟨rfl, rfl, rfl, by decide +kernel, rfl, by decide +kernel, by decide +kernel⟩

/-! ### is_find -/
abbrev s_is_find : Stmt := TOP 19
def S_is_find : Sc := { N := ["layers", "value"], sc := defScope s_is_find, own := ["layers", "value"], T := [("want_layers", f_want_layers), ("is_find_of", f_is_find_of)], G := [], Xs := [], fr := [], lv := 4, L := 2, Hs := [], tb := none }
def m_is_find : SM :=
    (sSeq (sDrop (mCall' f_want_layers.sem [.ex (mFz (mV 2 0))]))
    (sSeq (sRet (mCall' f_is_find_of.sem [.ex (mFz (mV 2 0)), .ex (mFz (mV 2 1))]))
    sNx))
def f_is_find : Fn := ⟨["layers", "value"], 5, [false, false], [["value", "layers"]], runF 2 2 m_is_find⟩
theorem c_is_find : cSs 60 S_is_find (defBody s_is_find) = some m_is_find := by rfl
theorem sc_is_find : FnScope S_is_find.N ["layers", "value"] (defScope s_is_find) := ⟨rfl, rfl, rfl, by decide +kernel, rfl, by decide +kernel, by decide +kernel⟩

/-! ### _law_is_link -/
abbrev s_law_is_link : Stmt := TOP 25
def S_law_is_link : Sc := { N := ["layers", "value"], sc := defScope s_law_is_link, own := ["layers", "value"], T := [("_law_is_number", f_law_is_number)], G := [], Xs := [], fr := ["isinstance", "len", "tuple"], lv := 1, L := 2, Hs := [], tb := none }
def m_law_is_link : SM :=
    (sSeq (sIf (mOr (mNot (mTru (.ex (mFz (mOp1 (gIsi [.tup]) (.nm 1)))))) (mCmp gNotIn (.ex (mFz (mOp1 gLen (.nm 1)))) (.ex (mFz (mTup (mAll [(mFz (mC (.int 0))), (mFz (mC (.int 3)))])))))) (sSeq (sRet (mC (.bool false)))
    sNx) sNx)
    (sSeq (sIf (mCmp gEqX (.nm 1) (.ex (mFz (mTup (mAll []))))) (sSeq (sRet (mC (.bool true)))
    sNx) sNx)
    (sSeq (sIf (mOr (mNot (mTru (.ex (mFz (mCall' f_law_is_number.sem [.ex (mFz (mOp gIx (.nm 1) (.ex (mFz (mC (.int 0)))))), .ex (mFz (mC (.int 0))), .ex (mFz (mOp gSubI (.nm 0) (.ex (mFz (mC (.int 1))))))]))))) (mNot (mTru (.ex (mFz (mCall' f_law_is_number.sem [.ex (mFz (mOp gIx (.nm 1) (.ex (mFz (mC (.int 1)))))), .ex (mFz (mC (.int 0))), .ex (mFz (mOp gSubI (.nm 0) (.ex (mFz (mC (.int 1))))))])))))) (sSeq (sRet (mC (.bool false)))
    sNx) sNx)
    (sSeq (sRet (mAndV (mToB (mBV (mCmp gNeP (.ex (mFz (mOp gIx (.nm 1) (.ex (mFz (mC (.int 0))))))) (.ex (mFz (mOp gIx (.nm 1) (.ex (mFz (mC (.int 1)))))))))) (mCall' f_law_is_number.sem [.ex (mFz (mOp gIx (.nm 1) (.ex (mFz (mC (.int 2)))))), .ex (mFz (mOp1 gNeg (.ex (mFz (mC (.int 9999)))))), .ex (mFz (mC (.int 9999)))])))
    sNx))))
def f_law_is_link : Fn := ⟨["layers", "value"], 2, [false, false], [], runF 2 2 m_law_is_link⟩
theorem c_law_is_link : cSs 60 S_law_is_link (defBody s_law_is_link) = some m_law_is_link := by rfl
theorem sc_law_is_link : FnScope S_law_is_link.N ["layers", "value"] (defScope s_law_is_link) := ⟨rfl, rfl, rfl, by decide +kernel, rfl, by decide +kernel, by decide +kernel⟩

/-! ### _law_is_find -/
abbrev s_law_is_find : Stmt := TOP 26
def S_law_is_find : Sc := { N := ["layers", "value"], sc := defScope s_law_is_find, own := ["layers", "value"], T := [("_law_is_number", f_law_is_number)], G := [], Xs := [], fr := ["isinstance", "len", "str", "tuple"], lv := 1, L := 2, Hs := [], tb := none }
def m_law_is_find : SM :=
    (sSeq (sIf (mOr (mNot (mTru (.ex (mFz (mOp1 (gIsi [.tup]) (.nm 1)))))) (mCmp gNotIn (.ex (mFz (mOp1 gLen (.nm 1)))) (.ex (mFz (mTup (mAll [(mFz (mC (.int 0))), (mFz (mC (.int 4)))])))))) (sSeq (sRet (mC (.bool false)))
    sNx) sNx)
    (sSeq (sIf (mCmp gEqX (.nm 1) (.ex (mFz (mTup (mAll []))))) (sSeq (sRet (mC (.bool true)))
    sNx) sNx)
    (sSeq (sIf (mOr (mNot (mTru (.ex (mFz (mOp1 (gIsi [.str]) (.ex (mFz (mOp gIx (.nm 1) (.ex (mFz (mC (.int 0)))))))))))) (mOr (mCmp gNotIn (.ex (mFz (mOp gIx (.nm 1) (.ex (mFz (mC (.int 0))))))) (.ex (mFz (mTup (mAll [(mFz (mC (.str "after"))), (mFz (mC (.str "before")))]))))) (mNot (mTru (.ex (mFz (mCall' f_law_is_number.sem [.ex (mFz (mOp gIx (.nm 1) (.ex (mFz (mC (.int 1)))))), .ex (mFz (mC (.int 0))), .ex (mFz (mOp gSubI (.nm 0) (.ex (mFz (mC (.int 1))))))]))))))) (sSeq (sRet (mC (.bool false)))
    sNx) sNx)
    (sSeq (sRet (mAndV (mToB (mCall' f_law_is_number.sem [.ex (mFz (mOp gIx (.nm 1) (.ex (mFz (mC (.int 2)))))), .ex (mFz (mOp1 gNeg (.ex (mFz (mC (.int 99999)))))), .ex (mFz (mC (.int 99999)))])) (mCall' f_law_is_number.sem [.ex (mFz (mOp gIx (.nm 1) (.ex (mFz (mC (.int 3)))))), .ex (mFz (mC (.int 1))), .ex (mFz (mC (.int 9999)))])))
    sNx))))
def f_law_is_find : Fn := ⟨["layers", "value"], 2, [false, false], [], runF 2 2 m_law_is_find⟩
theorem c_law_is_find : cSs 60 S_law_is_find (defBody s_law_is_find) = some m_law_is_find := by rfl
theorem sc_law_is_find : FnScope S_law_is_find.N ["layers", "value"] (defScope s_law_is_find) := ⟨rfl, rfl, rfl, by decide +kernel, rfl, by decide +kernel, by decide +kernel⟩

/-! ### is_count -/
abbrev s_is_count : Stmt := TOP 6
def S_is_count : Sc := { N := ["value"], sc := defScope s_is_count, own := ["value"], T := [("is_integer", f_is_integer)], G := [], Xs := [], fr := [], lv := 1, L := 1, Hs := [], tb := none }
def m_is_count : SM :=
    (sSeq (sRet (mAndV (mToB (mCall' f_is_integer.sem [.ex (mFz (mV 1 0))])) (mBV (mCmp gGeX (.nm 0) (.ex (mFz (mC (.int 0))))))))
    sNx)
def f_is_count : Fn := ⟨["value"], 2, [false], [], runF 1 1 m_is_count⟩
theorem c_is_count : cSs 60 S_is_count (defBody s_is_count) = some m_is_count := by rfl
theorem sc_is_count : FnScope S_is_count.N ["value"] (defScope s_is_count) := ⟨rfl, rfl, rfl, by decide +kernel, rfl, by decide +kernel, by decide +kernel⟩

/-! ### _law_right -/
abbrev s_law_right : Stmt := TOP 31
def S_law_right : Sc := { N := ["pot", "turn", "odd", "heard", "value", "due", "layers", "link", "find", "some", "told"], sc := defScope s_law_right, own := ["pot", "turn", "odd", "heard", "value", "due", "layers", "link", "find", "some", "told"], T := [("_law_draw", f_law_draw), ("_law_pick", f_law_pick), ("_law_odd", f_law_odd), ("_law_near", f_law_near), ("_law_bent", f_law_bent), ("_law_is_number", f_law_is_number), ("is_integer", f_is_integer), ("is_link", f_is_link), ("is_year", f_is_year), ("is_find", f_is_find), ("_law_is_link", f_law_is_link), ("_law_is_find", f_law_is_find), ("is_count", f_is_count)], G := [], Xs := [], fr := ["range", "repr"], lv := 7, L := 1, Hs := [("_law_heard", h_law_heard)], tb := some "_law_right.<locals>." }
def b0_law_right : SM :=
    (sSeq (sAsg 1 (mCall' f_law_pick.sem [.sl 0, .ex (mFz (mLst (mAll [(mFz (mC (.int 1))), (mFz (mC (.int 2))), (mFz (mC (.int 3))), (mFz (mC (.int 40)))])))]) (.nm 6))
    (sSeq (sAsg 1 (mCall' f_law_bent.sem [.sl 0, .own (mLst (mAll [(mFz (mCall' f_law_draw.sem [.sl 0, .ex (mFz (mV 1 6))])), (mFz (mCall' f_law_draw.sem [.sl 0, .ex (mFz (mV 1 6))])), (mFz (mCall' f_law_pick.sem [.sl 0, .ex (mFz (mLst (mAll [(mFz (mC (.int 0))), (mFz (mC (.int 9999))), (mFz (mOp1 gNeg (.ex (mFz (mC (.int 9999)))))), (mFz (mCall' f_law_near.sem [.sl 0]))])))]))]))]) (.nm 7))
    (sSeq (sAsg 1 (mLst (mAll [(mFz (mCall' f_law_pick.sem [.sl 0, .ex (mFz (mLst (mAll [(mFz (mC (.str "after"))), (mFz (mC (.str "before")))])))])), (mFz (mCall' f_law_draw.sem [.sl 0, .ex (mFz (mV 1 6))])), (mFz (mCall' f_law_near.sem [.sl 0])), (mFz (mCall' f_law_pick.sem [.sl 0, .ex (mFz (mLst (mAll [(mFz (mC (.int 1))), (mFz (mC (.int 9999))), (mFz (mC (.int 5)))])))]))])) (.nm 8))
    (sSeq (sAsg 1 (mCall' f_law_bent.sem [.sl 0, .sl 8]) (.nm 8))
    (sSeq (sAsg 1 (mCall' f_law_pick.sem [.sl 0, .ex (mFz (mLst (mAll [(mFz (mV 1 7)), (mFz (mV 1 8)), (mFz (mCall' f_law_odd.sem [.sl 0]))])))]) (.nm 9))
    (sSeq (sAsg 1 (mLst (mAll [(mFz (mCall' f_is_link.sem [.ex (mFz (mV 1 6)), .ex (mFz (mV 1 7))])), (mFz (mCall' f_is_find.sem [.ex (mFz (mV 1 6)), .ex (mFz (mV 1 8))])), (mFz (mCallK f_is_link.sem ["value", "layers"] f_is_link.ps [(mFz (mV 1 9)), (mFz (mV 1 6))])), (mFz (mCallK f_is_find.sem ["value", "layers"] f_is_find.ps [(mFz (mV 1 9)), (mFz (mV 1 6))]))])) (.nm 10))
    (sSeq (sAsg 1 (mLst (mAll [(mFz (mCall' f_law_is_link.sem [.ex (mFz (mV 1 6)), .ex (mFz (mV 1 7))])), (mFz (mCall' f_law_is_find.sem [.ex (mFz (mV 1 6)), .ex (mFz (mV 1 8))])), (mFz (mCall' f_law_is_link.sem [.ex (mFz (mV 1 6)), .ex (mFz (mV 1 9))])), (mFz (mCall' f_law_is_find.sem [.ex (mFz (mV 1 6)), .ex (mFz (mV 1 9))]))])) (.nm 5))
    (sSeq (sIf (mCmp gNeP (.ex (mFz (mOp1 gRepr (.nm 10)))) (.ex (mFz (mOp1 gRepr (.nm 5))))) (sSeq (sRet (mC (.bool false)))
    sNx) sNx)
    sNx))))))))
def b1_law_right : SM :=
    (sSeq (sAsg 1 (mCall' f_law_pick.sem [.sl 0, .ex (mFz (mLst (mAll [(mFz (mCall' f_law_odd.sem [.sl 0])), (mFz (mCall' f_law_near.sem [.sl 0])), (mFz (mCall' f_law_near.sem [.sl 0]))])))]) (.nm 4))
    (sSeq (sAsg 1 (mLst (mAll [(mFz (mCall' f_law_is_number.sem [.ex (mFz (mV 1 4)), .ex (mFz (mOp gSubI (.ex (mFz (mC (.int 0)))) (.ex (mFz (mOp gPowI (.ex (mFz (mC (.int 10)))) (.ex (mFz (mC (.int 30))))))))), .ex (mFz (mOp gPowI (.ex (mFz (mC (.int 10)))) (.ex (mFz (mC (.int 30))))))])), (mFz (mCall' f_law_is_number.sem [.ex (mFz (mV 1 4)), .ex (mFz (mC (.int 0))), .ex (mFz (mOp gPowI (.ex (mFz (mC (.int 10)))) (.ex (mFz (mC (.int 30))))))])), (mFz (mCall' f_law_is_number.sem [.ex (mFz (mV 1 4)), .ex (mFz (mOp1 gNeg (.ex (mFz (mC (.int 99999)))))), .ex (mFz (mC (.int 99999)))]))])) (.nm 5))
    (sSeq (sIf (mCmp gNeP (.ex (mFz (mOp1 gRepr (.ex (mFz (mLst (mAll [(mFz (mCall' f_is_integer.sem [.ex (mFz (mV 1 4))])), (mFz (mCall' f_is_count.sem [.ex (mFz (mV 1 4))])), (mFz (mCallK f_is_year.sem ["value"] f_is_year.ps [(mFz (mV 1 4))]))]))))))) (.ex (mFz (mOp1 gRepr (.nm 5))))) (sSeq (sRet (mC (.bool false)))
    sNx) sNx)
    sNx)))
def m_law_right : SM :=
    (sSeq (sFor 1 (mRange1 (.ex (mFz (mC (.int 6))))) (.nm 1) b1_law_right)
    (sSeq (sFor 1 (mRange1 (.ex (mFz (mC (.int 6))))) (.nm 1) b0_law_right)
    (sSeq (sAsg 1 (mCall' f_law_pick.sem [.sl 0, .ex (mFz (mLst (mAll [(mFz (mC (.int 0))), (mFz (mC (.int 41))), (mFz (mOp1 gNeg (.ex (mFz (mC (.int 1)))))), (mFz (mC .none)), (mFz (mC (.bool true))), (mFz (mC (.str "2"))), (mFz (mLst (mAll [(mFz (mC (.int 1)))]))), (mFz (mTup (mAll []))), (mFz (mOp gPowI (.ex (mFz (mC (.int 10)))) (.ex (mFz (mC (.int 20))))))])))]) (.nm 2))
    (sSeq (sAsg 1 (mLst (mAll [(mFz (mHeard h_law_heard (mCall' f_is_link.sem [.ex (mFz (mV 1 2)), .ex (mFz (mTup (mAll [])))])))])) (.nm 3))
    (sSeq (sDrop (mApp' 3 (mFz (mHeard h_law_heard (mCall' f_is_find.sem [.ex (mFz (mV 1 2)), .ex (mFz (mC .none))])))))
    (sSeq (sRet (mBV (mCmp gEqX (.nm 3) (.ex (mFz (mOp gMulX (.ex (mFz (mLst (mAll [(mFz (mTup (mAll [(mFz (mOp1 gRepr (.nm 2))), (mFz (mC (.bool true))), (mFz (mC (.bool true)))])))])))) (.ex (mFz (mC (.int 2))))))))))
    sNx))))))
def f_law_right : Fn := ⟨["pot"], 8, [true], [], runF 1 11 m_law_right⟩
theorem c_law_right : cSs 60 S_law_right (defBody s_law_right) = some m_law_right := by rfl
theorem sc_law_right : FnScope S_law_right.N ["pot"] (defScope s_law_right) := ⟨rfl, rfl, rfl, by decide +kernel, rfl, by decide +kernel, by decide +kernel⟩

/-! ### _law_pot -/
abbrev s_law_pot : Stmt := TOP 21
def S_law_pot : Sc := { N := ["script", "k", "cell"], sc := defScope s_law_pot, own := ["script", "k", "cell"], T := [], G := [], Xs := [], fr := ["abs", "int", "len", "max"], lv := 0, L := 2, Hs := [], tb := none }
def m_law_pot : SM :=
    (sSeq (sAsg 2 (mIf (mCmp gLtX (.nm 1) (.ex (mFz (mOp1 gLen (.nm 0))))) (mOp1 gAbs (.ex (mFz (mOp gIx (.nm 0) (.nm 1))))) (mOp gAddX (.ex (mFz (mOp gMulX (.ex (mFz (mC (.int 1663)))) (.nm 1)))) (.ex (mFz (mC (.int 841)))))) (.nm 2))
    (sSeq (sRet (mLst (mAll [(mFz (mOp gMax2 (.ex (mFz (mC (.int 0)))) (.ex (mFz (mOp gSubI (.nm 2) (.ex (mFz (mOp gPowI (.ex (mFz (mC (.int 10)))) (.ex (mFz (mC (.int 18)))))))))))), (mFz (mOp gAddX (.ex (mFz (mOp gModI (.ex (mFz (mOp1 gInt (.ex (mFz (mOp gAddX (.ex (mFz (mOp gAddX (.ex (mFz (mOp gMulX (.ex (mFz (mOp gModI (.ex (mFz (mOp1 gInt (.nm 2)))) (.ex (mFz (mC (.int 2147483549))))))) (.ex (mFz (mC (.int 40597))))))) (.ex (mFz (mOp gMulX (.ex (mFz (mC (.int 841)))) (.nm 1))))))) (.ex (mFz (mC (.int 1663)))))))))) (.ex (mFz (mC (.int 2147483563))))))) (.ex (mFz (mC (.int 1))))))])))
    sNx))
def f_law_pot : Fn := ⟨["script", "k"], 1, [false, false], [], runF 2 3 m_law_pot⟩
theorem c_law_pot : cSs 60 S_law_pot (defBody s_law_pot) = some m_law_pot := by rfl
theorem sc_law_pot : FnScope S_law_pot.N ["script", "k"] (defScope s_law_pot) := ⟨rfl, rfl, rfl, by decide +kernel, rfl, by decide +kernel, by decide +kernel⟩

/-! ### law -/
abbrev s_law : Stmt := TOP 32
def S_law : Sc := { N := ["script", "k"], sc := defScope s_law, own := ["script", "k"], T := [("_law_right", f_law_right), ("_law_pot", f_law_pot)], G := [], Xs := [], fr := ["all", "len", "max", "min", "range"], lv := 8, L := 1, Hs := [], tb := none }
def m_law : SM :=
    (sSeq (sRet (mOp1 gAll (.ex (mFz (mComp (mRange1 (.ex (mFz (mOp gMax2 (.ex (mFz (mC (.int 1)))) (.ex (mFz (mOp gMin2 (.ex (mFz (mC (.int 4)))) (.ex (mFz (mOp1 gLen (.nm 0))))))))))) (.nm 1) mYes (mFz (mCall' f_law_right.sem [.own (mCall' f_law_pot.sem [.ex (mFz (mV 1 0)), .ex (mFz (mV 1 1))])])))))))
    sNx)
def f_law : Fn := ⟨["script"], 9, [false], [], runF 1 2 m_law⟩
theorem c_law : cSs 60 S_law (defBody s_law) = some m_law := by rfl
theorem sc_law : FnScope S_law.N ["script"] (defScope s_law) := ⟨rfl, rfl, rfl, by decide +kernel, rfl, by decide +kernel, by decide +kernel⟩

/-! ### the head -/
def d_law_draw : He.DefD := ⟨("_law_draw", none), "_law_draw", "_law_draw", defArgs s_law_draw, defBody s_law_draw, defScope s_law_draw, [], []⟩
def d_law_pick : He.DefD := ⟨("_law_pick", none), "_law_pick", "_law_pick", defArgs s_law_pick, defBody s_law_pick, defScope s_law_pick, [], []⟩
def d_law_odd : He.DefD := ⟨("_law_odd", none), "_law_odd", "_law_odd", defArgs s_law_odd, defBody s_law_odd, defScope s_law_odd, [], []⟩
def d_law_near : He.DefD := ⟨("_law_near", none), "_law_near", "_law_near", defArgs s_law_near, defBody s_law_near, defScope s_law_near, [], []⟩
def d_law_bent : He.DefD := ⟨("_law_bent", none), "_law_bent", "_law_bent", defArgs s_law_bent, defBody s_law_bent, defScope s_law_bent, [], []⟩
def d_law_is_number : He.DefD := ⟨("_law_is_number", none), "_law_is_number", "_law_is_number", defArgs s_law_is_number, defBody s_law_is_number, defScope s_law_is_number, [], []⟩
def d_is_integer : He.DefD := ⟨("is_integer", none), "is_integer", "is_integer", defArgs s_is_integer, defBody s_is_integer, defScope s_is_integer, [], []⟩
def d_is_within : He.DefD := ⟨("is_within", none), "is_within", "is_within", defArgs s_is_within, defBody s_is_within, defScope s_is_within, [], []⟩
def d_want_layers : He.DefD := ⟨("want_layers", none), "want_layers", "want_layers", defArgs s_want_layers, defBody s_want_layers, defScope s_want_layers, [], []⟩
def d_is_link_of : He.DefD := ⟨("is_link_of", none), "is_link_of", "is_link_of", defArgs s_is_link_of, defBody s_is_link_of, defScope s_is_link_of, [], []⟩
def d_is_link : He.DefD := ⟨("is_link", none), "is_link", "is_link", defArgs s_is_link, defBody s_is_link, defScope s_is_link, [], []⟩
def d_is_year : He.DefD := ⟨("is_year", none), "is_year", "is_year", defArgs s_is_year, defBody s_is_year, defScope s_is_year, [], []⟩
def d_is_find_of : He.DefD := ⟨("is_find_of", none), "is_find_of", "is_find_of", defArgs s_is_find_of, defBody s_is_find_of, defScope s_is_find_of, [], []⟩
def d_is_find : He.DefD := ⟨("is_find", none), "is_find", "is_find", defArgs s_is_find, defBody s_is_find, defScope s_is_find, [], []⟩
def d_law_is_link : He.DefD := ⟨("_law_is_link", none), "_law_is_link", "_law_is_link", defArgs s_law_is_link, defBody s_law_is_link, defScope s_law_is_link, [], []⟩
def d_law_is_find : He.DefD := ⟨("_law_is_find", none), "_law_is_find", "_law_is_find", defArgs s_law_is_find, defBody s_law_is_find, defScope s_law_is_find, [], []⟩
def d_is_count : He.DefD := ⟨("is_count", none), "is_count", "is_count", defArgs s_is_count, defBody s_is_count, defScope s_is_count, [], []⟩
def d_law_right : He.DefD := ⟨("_law_right", none), "_law_right", "_law_right", defArgs s_law_right, defBody s_law_right, defScope s_law_right, [], []⟩
def d_law_pot : He.DefD := ⟨("_law_pot", none), "_law_pot", "_law_pot", defArgs s_law_pot, defBody s_law_pot, defScope s_law_pot, [], []⟩
def d_law : He.DefD := ⟨("law", none), "law", "law", defArgs s_law, defBody s_law, defScope s_law, [], []⟩
def d_law_heard : He.DefD := ⟨("_law_heard", none), "_law_heard", "_law_heard", defArgs s_law_heard, defBody s_law_heard, defScope s_law_heard, [], []⟩
abbrev s_init_InvalidLayers : Stmt := (match TOP 1 with | .ClassDef _ _ _ b _ _ _ _ _ _ _ => b.getD 0 (.Pass ⟨0, 0, 0, 0⟩) | s => s)
def d_init_InvalidLayers : He.DefD := ⟨("InvalidLayers", some "__init__"), "__init__", "DigError.__init__", defArgs s_init_InvalidLayers, defBody s_init_InvalidLayers, defScope s_init_InvalidLayers, [], []⟩
def fns : List He.DefD := [d_law_draw, d_law_pick, d_law_odd, d_law_near, d_law_bent, d_law_is_number, d_is_integer, d_is_within, d_want_layers, d_is_link_of, d_is_link, d_is_year, d_is_find_of, d_is_find, d_law_is_link, d_law_is_find, d_is_count, d_law_right, d_law_pot, d_law, d_law_heard, d_init_InvalidLayers]
def facts : List He.Fa := [.glo "_law_draw", .glo "_law_pick", .glo "_law_odd", .glo "_law_near", .glo "_law_bent", .glo "_law_is_number", .glo "is_integer", .glo "is_within", .glo "want_layers", .glo "is_link_of", .glo "is_link", .glo "is_year", .glo "is_find_of", .glo "is_find", .glo "_law_is_link", .glo "_law_is_find", .glo "is_count", .glo "_law_right", .glo "_law_pot", .glo "law", .glo "_law_heard", .free "ValueError", .free "abs", .free "all", .free "bool", .free "divmod", .free "int", .free "isinstance", .free "len", .free "list", .free "max", .free "min", .free "range", .free "repr", .free "str", .free "tuple", .str "AFTER" "after", .str "BEFORE" "before", .int "MOST_GAP" 9999, .int "MOST_LAYERS" 40, .int "MOST_TRUST" 9999, .int "MOST_YEAR" 99999]
def ex (K : PySem.W.Frag) : Bool := (excB K "InvalidLayers" "value") && (hrdB K h_law_heard)
def tfs : List He.Defn := [("_law_right", none)]
def Tk (K : PySem.W.Frag) : Tb := [((He.cT K ("_law_right", none)).2, "_law_right.<locals>.<lambda>")]
def Bs (K : PySem.W.Frag) (mg : Str → Option Value) (base : Heap) : Prop := ∀ p ∈ tfs.map (He.cT K), LamX.TabB base mg p.1 p.2
section
variable {P : Program} {w : World} {K : PySem.W.Frag} {h : Heap} {mg : Str → Option Value}
theorem no_ValueError (X : K.In h) (G : h.Ns mainGlobals mg) (c : He.SaysX facts fns [] tfs ex w h K) : mg "ValueError" = none := He.free_ok X G (c.t.d.fact 21 (f := .free "ValueError") rfl)
theorem no_abs (X : K.In h) (G : h.Ns mainGlobals mg) (c : He.SaysX facts fns [] tfs ex w h K) : mg "abs" = none := He.free_ok X G (c.t.d.fact 22 (f := .free "abs") rfl)
theorem no_all (X : K.In h) (G : h.Ns mainGlobals mg) (c : He.SaysX facts fns [] tfs ex w h K) : mg "all" = none := He.free_ok X G (c.t.d.fact 23 (f := .free "all") rfl)
theorem no_bool (X : K.In h) (G : h.Ns mainGlobals mg) (c : He.SaysX facts fns [] tfs ex w h K) : mg "bool" = none := He.free_ok X G (c.t.d.fact 24 (f := .free "bool") rfl)
theorem no_divmod (X : K.In h) (G : h.Ns mainGlobals mg) (c : He.SaysX facts fns [] tfs ex w h K) : mg "divmod" = none := He.free_ok X G (c.t.d.fact 25 (f := .free "divmod") rfl)
theorem no_int (X : K.In h) (G : h.Ns mainGlobals mg) (c : He.SaysX facts fns [] tfs ex w h K) : mg "int" = none := He.free_ok X G (c.t.d.fact 26 (f := .free "int") rfl)
theorem no_isinstance (X : K.In h) (G : h.Ns mainGlobals mg) (c : He.SaysX facts fns [] tfs ex w h K) : mg "isinstance" = none := He.free_ok X G (c.t.d.fact 27 (f := .free "isinstance") rfl)
theorem no_len (X : K.In h) (G : h.Ns mainGlobals mg) (c : He.SaysX facts fns [] tfs ex w h K) : mg "len" = none := He.free_ok X G (c.t.d.fact 28 (f := .free "len") rfl)
theorem no_list (X : K.In h) (G : h.Ns mainGlobals mg) (c : He.SaysX facts fns [] tfs ex w h K) : mg "list" = none := He.free_ok X G (c.t.d.fact 29 (f := .free "list") rfl)
theorem no_max (X : K.In h) (G : h.Ns mainGlobals mg) (c : He.SaysX facts fns [] tfs ex w h K) : mg "max" = none := He.free_ok X G (c.t.d.fact 30 (f := .free "max") rfl)
theorem no_min (X : K.In h) (G : h.Ns mainGlobals mg) (c : He.SaysX facts fns [] tfs ex w h K) : mg "min" = none := He.free_ok X G (c.t.d.fact 31 (f := .free "min") rfl)
theorem no_range (X : K.In h) (G : h.Ns mainGlobals mg) (c : He.SaysX facts fns [] tfs ex w h K) : mg "range" = none := He.free_ok X G (c.t.d.fact 32 (f := .free "range") rfl)
theorem no_repr (X : K.In h) (G : h.Ns mainGlobals mg) (c : He.SaysX facts fns [] tfs ex w h K) : mg "repr" = none := He.free_ok X G (c.t.d.fact 33 (f := .free "repr") rfl)
theorem no_str (X : K.In h) (G : h.Ns mainGlobals mg) (c : He.SaysX facts fns [] tfs ex w h K) : mg "str" = none := He.free_ok X G (c.t.d.fact 34 (f := .free "str") rfl)
theorem no_tuple (X : K.In h) (G : h.Ns mainGlobals mg) (c : He.SaysX facts fns [] tfs ex w h K) : mg "tuple" = none := He.free_ok X G (c.t.d.fact 35 (f := .free "tuple") rfl)
theorem k_AFTER (X : K.In h) (G : h.Ns mainGlobals mg) (c : He.SaysX facts fns [] tfs ex w h K) : CstR K mg "AFTER" (.str "after") := by
  obtain ⟨t, e⟩ := He.str_ok X G (c.t.d.fact 36 (f := .str "AFTER" "after") rfl)
  exact ⟨.str "after", _, e, ⟨t, rfl⟩, fun _ => .str _⟩
theorem k_BEFORE (X : K.In h) (G : h.Ns mainGlobals mg) (c : He.SaysX facts fns [] tfs ex w h K) : CstR K mg "BEFORE" (.str "before") := by
  obtain ⟨t, e⟩ := He.str_ok X G (c.t.d.fact 37 (f := .str "BEFORE" "before") rfl)
  exact ⟨.str "before", _, e, ⟨t, rfl⟩, fun _ => .str _⟩
theorem k_MOST_GAP (X : K.In h) (G : h.Ns mainGlobals mg) (c : He.SaysX facts fns [] tfs ex w h K) : CstR K mg "MOST_GAP" (.int 9999) := by
  obtain ⟨t, e⟩ := He.int_ok X G (c.t.d.fact 38 (f := .int "MOST_GAP" 9999) rfl)
  exact ⟨.int 9999, _, e, ⟨t, rfl⟩, fun _ => .int _⟩
theorem k_MOST_LAYERS (X : K.In h) (G : h.Ns mainGlobals mg) (c : He.SaysX facts fns [] tfs ex w h K) : CstR K mg "MOST_LAYERS" (.int 40) := by
  obtain ⟨t, e⟩ := He.int_ok X G (c.t.d.fact 39 (f := .int "MOST_LAYERS" 40) rfl)
  exact ⟨.int 40, _, e, ⟨t, rfl⟩, fun _ => .int _⟩
theorem k_MOST_TRUST (X : K.In h) (G : h.Ns mainGlobals mg) (c : He.SaysX facts fns [] tfs ex w h K) : CstR K mg "MOST_TRUST" (.int 9999) := by
  obtain ⟨t, e⟩ := He.int_ok X G (c.t.d.fact 40 (f := .int "MOST_TRUST" 9999) rfl)
  exact ⟨.int 9999, _, e, ⟨t, rfl⟩, fun _ => .int _⟩
theorem k_MOST_YEAR (X : K.In h) (G : h.Ns mainGlobals mg) (c : He.SaysX facts fns [] tfs ex w h K) : CstR K mg "MOST_YEAR" (.int 99999) := by
  obtain ⟨t, e⟩ := He.int_ok X G (c.t.d.fact 41 (f := .int "MOST_YEAR" 99999) rfl)
  exact ⟨.int 99999, _, e, ⟨t, rfl⟩, fun _ => .int _⟩
theorem ex_all (X : K.In h) (G : h.Ns mainGlobals mg) (c : He.SaysX facts fns [] tfs ex w h K) : excB K "InvalidLayers" "value" = true ∧ hrdB K h_law_heard = true := by
  have z := c.more
  unfold ex at z
  simpa only [Bool.and_eq_true, and_assoc] using z
theorem x_InvalidLayers (X : K.In h) (G : h.Ns mainGlobals mg) (c : He.SaysX facts fns [] tfs ex w h K) (lv : Nat) (hlv : 2 ≤ lv) : ExcR P w K mg lv "InvalidLayers" "value" := by
  obtain ⟨fd, F⟩ := c.t.d.def_ 21 (d := d_init_InvalidLayers) rfl
  exact excR_of (a := "self") (b := "value") X G (ex_all X G c).1 F ⟨rfl, rfl, rfl, by decide +kernel, rfl, by decide +kernel, by decide +kernel⟩ rfl (by decide +kernel) (by decide +kernel) hlv (fun _ _ _ _ _ _ us hl => match us, hl with | [_, _], _ => rfl)
theorem q_law_heard (X : K.In h) (G : h.Ns mainGlobals mg) (c : He.SaysX facts fns [] tfs ex w h K) : HrdOk K mg "_law_heard" h_law_heard := by
  obtain ⟨fd, F⟩ := c.t.d.def_ 20 (d := d_law_heard) rfl
  exact hrd_of (st := s_law_heard) (hp := ⟨"found", "InvalidLayers", "e", h_law_heard.hx⟩) X G (ex_all X G c).2 F (He.glo_ok X G (c.t.d.fact 20 (f := .glo "_law_heard") rfl)) sc_law_heard (by decide +kernel) c_law_heard rfl rfl (List.forall_mem_cons.mpr ⟨no_ValueError X G c, List.forall_mem_cons.mpr ⟨no_isinstance X G c, List.forall_mem_cons.mpr ⟨no_repr X G c, List.forall_mem_nil _⟩⟩⟩) (fun _ _ _ _ _ _ us hl => match us, hl with | [_], _ => rfl)
theorem r_law_draw (X : K.In h) (G : h.Ns mainGlobals mg) (c : He.SaysX facts fns [] tfs ex w h K) : FnR (Tk K) (Bs K mg) P w K mg "_law_draw" f_law_draw := by
  obtain ⟨fd, F⟩ := c.t.d.def_ 0 (d := d_law_draw) rfl
  refine fnr_of F (He.glo_ok X G (c.t.d.fact 0 (f := .glo "_law_draw") rfl)) sc_law_draw rfl rfl c_law_draw (fun _ _ _ _ _ _ us hl => match us, hl with | [_, _], _ => rfl)
    (fun _ hks => nomatch hks)
    (List.forall_mem_cons.mpr ⟨no_divmod X G c, List.forall_mem_cons.mpr ⟨no_int X G c, List.forall_mem_nil _⟩⟩)
    (List.forall_mem_nil _)
    (List.forall_mem_nil _)
    (List.forall_mem_nil _)
    (List.forall_mem_nil _) ?_
  intro q hq
  cases hq
theorem r_law_pick (X : K.In h) (G : h.Ns mainGlobals mg) (c : He.SaysX facts fns [] tfs ex w h K) : FnR (Tk K) (Bs K mg) P w K mg "_law_pick" f_law_pick := by
  obtain ⟨fd, F⟩ := c.t.d.def_ 1 (d := d_law_pick) rfl
  refine fnr_of F (He.glo_ok X G (c.t.d.fact 1 (f := .glo "_law_pick") rfl)) sc_law_pick rfl rfl c_law_pick (fun _ _ _ _ _ _ us hl => match us, hl with | [_, _], _ => rfl)
    (fun _ hks => nomatch hks)
    (List.forall_mem_cons.mpr ⟨no_len X G c, List.forall_mem_nil _⟩)
    (List.forall_mem_cons.mpr ⟨r_law_draw X G c, List.forall_mem_nil _⟩)
    (List.forall_mem_nil _)
    (List.forall_mem_nil _)
    (List.forall_mem_nil _) ?_
  intro q hq
  cases hq
theorem r_law_odd (X : K.In h) (G : h.Ns mainGlobals mg) (c : He.SaysX facts fns [] tfs ex w h K) : FnR (Tk K) (Bs K mg) P w K mg "_law_odd" f_law_odd := by
  obtain ⟨fd, F⟩ := c.t.d.def_ 2 (d := d_law_odd) rfl
  refine fnr_of F (He.glo_ok X G (c.t.d.fact 2 (f := .glo "_law_odd") rfl)) sc_law_odd rfl rfl c_law_odd (fun _ _ _ _ _ _ us hl => match us, hl with | [_], _ => rfl)
    (fun _ hks => nomatch hks)
    (List.forall_mem_nil _)
    (List.forall_mem_cons.mpr ⟨r_law_pick X G c, List.forall_mem_nil _⟩)
    (List.forall_mem_nil _)
    (List.forall_mem_nil _)
    (List.forall_mem_nil _) ?_
  intro q hq
  cases hq
theorem r_law_near (X : K.In h) (G : h.Ns mainGlobals mg) (c : He.SaysX facts fns [] tfs ex w h K) : FnR (Tk K) (Bs K mg) P w K mg "_law_near" f_law_near := by
  obtain ⟨fd, F⟩ := c.t.d.def_ 3 (d := d_law_near) rfl
  refine fnr_of F (He.glo_ok X G (c.t.d.fact 3 (f := .glo "_law_near") rfl)) sc_law_near rfl rfl c_law_near (fun _ _ _ _ _ _ us hl => match us, hl with | [_], _ => rfl)
    (fun _ hks => nomatch hks)
    (List.forall_mem_nil _)
    (List.forall_mem_cons.mpr ⟨r_law_draw X G c, List.forall_mem_cons.mpr ⟨r_law_pick X G c, List.forall_mem_nil _⟩⟩)
    (List.forall_mem_nil _)
    (List.forall_mem_nil _)
    (List.forall_mem_nil _) ?_
  intro q hq
  cases hq
theorem r_law_bent (X : K.In h) (G : h.Ns mainGlobals mg) (c : He.SaysX facts fns [] tfs ex w h K) : FnR (Tk K) (Bs K mg) P w K mg "_law_bent" f_law_bent := by
  obtain ⟨fd, F⟩ := c.t.d.def_ 4 (d := d_law_bent) rfl
  refine fnr_of F (He.glo_ok X G (c.t.d.fact 4 (f := .glo "_law_bent") rfl)) sc_law_bent rfl rfl c_law_bent (fun _ _ _ _ _ _ us hl => match us, hl with | [_, _], _ => rfl)
    (fun _ hks => nomatch hks)
    (List.forall_mem_cons.mpr ⟨no_len X G c, List.forall_mem_cons.mpr ⟨no_list X G c, List.forall_mem_cons.mpr ⟨no_tuple X G c, List.forall_mem_nil _⟩⟩⟩)
    (List.forall_mem_cons.mpr ⟨r_law_draw X G c, List.forall_mem_cons.mpr ⟨r_law_pick X G c, List.forall_mem_cons.mpr ⟨r_law_odd X G c, List.forall_mem_cons.mpr ⟨r_law_near X G c, List.forall_mem_nil _⟩⟩⟩⟩)
    (List.forall_mem_nil _)
    (List.forall_mem_nil _)
    (List.forall_mem_nil _) ?_
  intro q hq
  cases hq
theorem r_law_is_number (X : K.In h) (G : h.Ns mainGlobals mg) (c : He.SaysX facts fns [] tfs ex w h K) : FnR (Tk K) (Bs K mg) P w K mg "_law_is_number" f_law_is_number := by
  obtain ⟨fd, F⟩ := c.t.d.def_ 5 (d := d_law_is_number) rfl
  refine fnr_of F (He.glo_ok X G (c.t.d.fact 5 (f := .glo "_law_is_number") rfl)) sc_law_is_number rfl rfl c_law_is_number (fun _ _ _ _ _ _ us hl => match us, hl with | [_, _, _], _ => rfl)
    (fun _ hks => nomatch hks)
    (List.forall_mem_cons.mpr ⟨no_bool X G c, List.forall_mem_cons.mpr ⟨no_int X G c, List.forall_mem_cons.mpr ⟨no_isinstance X G c, List.forall_mem_nil _⟩⟩⟩)
    (List.forall_mem_nil _)
    (List.forall_mem_nil _)
    (List.forall_mem_nil _)
    (List.forall_mem_nil _) ?_
  intro q hq
  cases hq
theorem r_is_integer (X : K.In h) (G : h.Ns mainGlobals mg) (c : He.SaysX facts fns [] tfs ex w h K) : FnR (Tk K) (Bs K mg) P w K mg "is_integer" f_is_integer := by
  obtain ⟨fd, F⟩ := c.t.d.def_ 6 (d := d_is_integer) rfl
  refine fnr_of F (He.glo_ok X G (c.t.d.fact 6 (f := .glo "is_integer") rfl)) sc_is_integer rfl rfl c_is_integer (fun _ _ _ _ _ _ us hl => match us, hl with | [_], _ => rfl)
    (fun _ hks => nomatch hks)
    (List.forall_mem_cons.mpr ⟨no_bool X G c, List.forall_mem_cons.mpr ⟨no_int X G c, List.forall_mem_cons.mpr ⟨no_isinstance X G c, List.forall_mem_nil _⟩⟩⟩)
    (List.forall_mem_nil _)
    (List.forall_mem_nil _)
    (List.forall_mem_nil _)
    (List.forall_mem_nil _) ?_
  intro q hq
  cases hq
theorem r_is_within (X : K.In h) (G : h.Ns mainGlobals mg) (c : He.SaysX facts fns [] tfs ex w h K) : FnR (Tk K) (Bs K mg) P w K mg "is_within" f_is_within := by
  obtain ⟨fd, F⟩ := c.t.d.def_ 7 (d := d_is_within) rfl
  refine fnr_of F (He.glo_ok X G (c.t.d.fact 7 (f := .glo "is_within") rfl)) sc_is_within rfl rfl c_is_within (fun _ _ _ _ _ _ us hl => match us, hl with | [_, _, _], _ => rfl)
    (fun _ hks => nomatch hks)
    (List.forall_mem_nil _)
    (List.forall_mem_cons.mpr ⟨r_is_integer X G c, List.forall_mem_nil _⟩)
    (List.forall_mem_nil _)
    (List.forall_mem_nil _)
    (List.forall_mem_nil _) ?_
  intro q hq
  cases hq
theorem r_want_layers (X : K.In h) (G : h.Ns mainGlobals mg) (c : He.SaysX facts fns [] tfs ex w h K) : FnR (Tk K) (Bs K mg) P w K mg "want_layers" f_want_layers := by
  obtain ⟨fd, F⟩ := c.t.d.def_ 8 (d := d_want_layers) rfl
  refine fnr_of F (He.glo_ok X G (c.t.d.fact 8 (f := .glo "want_layers") rfl)) sc_want_layers rfl rfl c_want_layers (fun _ _ _ _ _ _ us hl => match us, hl with | [_], _ => rfl)
    (fun _ hks => nomatch hks)
    (List.forall_mem_nil _)
    (List.forall_mem_cons.mpr ⟨r_is_within X G c, List.forall_mem_nil _⟩)
    (List.forall_mem_cons.mpr ⟨k_MOST_LAYERS X G c, List.forall_mem_nil _⟩)
    (List.forall_mem_cons.mpr ⟨x_InvalidLayers X G c _ (by decide), List.forall_mem_nil _⟩)
    (List.forall_mem_nil _) ?_
  intro q hq
  cases hq
theorem r_is_link_of (X : K.In h) (G : h.Ns mainGlobals mg) (c : He.SaysX facts fns [] tfs ex w h K) : FnR (Tk K) (Bs K mg) P w K mg "is_link_of" f_is_link_of := by
  obtain ⟨fd, F⟩ := c.t.d.def_ 9 (d := d_is_link_of) rfl
  refine fnr_of F (He.glo_ok X G (c.t.d.fact 9 (f := .glo "is_link_of") rfl)) sc_is_link_of rfl rfl c_is_link_of (fun _ _ _ _ _ _ us hl => match us, hl with | [_, _], _ => rfl)
    (fun _ hks => nomatch hks)
    (List.forall_mem_cons.mpr ⟨no_isinstance X G c, List.forall_mem_cons.mpr ⟨no_len X G c, List.forall_mem_cons.mpr ⟨no_tuple X G c, List.forall_mem_nil _⟩⟩⟩)
    (List.forall_mem_cons.mpr ⟨r_is_within X G c, List.forall_mem_nil _⟩)
    (List.forall_mem_cons.mpr ⟨k_MOST_GAP X G c, List.forall_mem_nil _⟩)
    (List.forall_mem_nil _)
    (List.forall_mem_nil _) ?_
  intro q hq
  cases hq
theorem r_is_link (X : K.In h) (G : h.Ns mainGlobals mg) (c : He.SaysX facts fns [] tfs ex w h K) : FnR (Tk K) (Bs K mg) P w K mg "is_link" f_is_link := by
  obtain ⟨fd, F⟩ := c.t.d.def_ 10 (d := d_is_link) rfl
  refine fnr_of F (He.glo_ok X G (c.t.d.fact 10 (f := .glo "is_link") rfl)) sc_is_link rfl rfl c_is_link (fun _ _ _ _ _ _ us hl => match us, hl with | [_, _], _ => rfl)
    (fun ks hks => by
      simp only [List.mem_cons, List.not_mem_nil, or_false] at hks
      subst hks
      exact fun _ _ _ _ _ _ us hl => match us, hl with | [_, _], _ => rfl)
    (List.forall_mem_nil _)
    (List.forall_mem_cons.mpr ⟨r_want_layers X G c, List.forall_mem_cons.mpr ⟨r_is_link_of X G c, List.forall_mem_nil _⟩⟩)
    (List.forall_mem_nil _)
    (List.forall_mem_nil _)
    (List.forall_mem_nil _) ?_
  intro q hq
  cases hq
theorem r_is_year (X : K.In h) (G : h.Ns mainGlobals mg) (c : He.SaysX facts fns [] tfs ex w h K) : FnR (Tk K) (Bs K mg) P w K mg "is_year" f_is_year := by
  obtain ⟨fd, F⟩ := c.t.d.def_ 11 (d := d_is_year) rfl
  refine fnr_of F (He.glo_ok X G (c.t.d.fact 11 (f := .glo "is_year") rfl)) sc_is_year rfl rfl c_is_year (fun _ _ _ _ _ _ us hl => match us, hl with | [_], _ => rfl)
    (fun ks hks => by
      simp only [List.mem_cons, List.not_mem_nil, or_false] at hks
      subst hks
      exact fun _ _ _ _ _ _ us hl => match us, hl with | [_], _ => rfl)
    (List.forall_mem_nil _)
    (List.forall_mem_cons.mpr ⟨r_is_within X G c, List.forall_mem_nil _⟩)
    (List.forall_mem_cons.mpr ⟨k_MOST_YEAR X G c, List.forall_mem_nil _⟩)
    (List.forall_mem_nil _)
    (List.forall_mem_nil _) ?_
  intro q hq
  cases hq
theorem r_is_find_of (X : K.In h) (G : h.Ns mainGlobals mg) (c : He.SaysX facts fns [] tfs ex w h K) : FnR (Tk K) (Bs K mg) P w K mg "is_find_of" f_is_find_of := by
  obtain ⟨fd, F⟩ := c.t.d.def_ 12 (d := d_is_find_of) rfl
  refine fnr_of F (He.glo_ok X G (c.t.d.fact 12 (f := .glo "is_find_of") rfl)) sc_is_find_of rfl rfl c_is_find_of (fun _ _ _ _ _ _ us hl => match us, hl with | [_, _], _ => rfl)
    (fun _ hks => nomatch hks)
    (List.forall_mem_cons.mpr ⟨no_isinstance X G c, List.forall_mem_cons.mpr ⟨no_len X G c, List.forall_mem_cons.mpr ⟨no_str X G c, List.forall_mem_cons.mpr ⟨no_tuple X G c, List.forall_mem_nil _⟩⟩⟩⟩)
    (List.forall_mem_cons.mpr ⟨r_is_within X G c, List.forall_mem_cons.mpr ⟨r_is_year X G c, List.forall_mem_nil _⟩⟩)
    (List.forall_mem_cons.mpr ⟨k_AFTER X G c, List.forall_mem_cons.mpr ⟨k_BEFORE X G c, List.forall_mem_cons.mpr ⟨k_MOST_TRUST X G c, List.forall_mem_nil _⟩⟩⟩)
    (List.forall_mem_nil _)
    (List.forall_mem_nil _) ?_
  intro q hq
  cases hq
theorem r_is_find (X : K.In h) (G : h.Ns mainGlobals mg) (c : He.SaysX facts fns [] tfs ex w h K) : FnR (Tk K) (Bs K mg) P w K mg "is_find" f_is_find := by
  obtain ⟨fd, F⟩ := c.t.d.def_ 13 (d := d_is_find) rfl
  refine fnr_of F (He.glo_ok X G (c.t.d.fact 13 (f := .glo "is_find") rfl)) sc_is_find rfl rfl c_is_find (fun _ _ _ _ _ _ us hl => match us, hl with | [_, _], _ => rfl)
    (fun ks hks => by
      simp only [List.mem_cons, List.not_mem_nil, or_false] at hks
      subst hks
      exact fun _ _ _ _ _ _ us hl => match us, hl with | [_, _], _ => rfl)
    (List.forall_mem_nil _)
    (List.forall_mem_cons.mpr ⟨r_want_layers X G c, List.forall_mem_cons.mpr ⟨r_is_find_of X G c, List.forall_mem_nil _⟩⟩)
    (List.forall_mem_nil _)
    (List.forall_mem_nil _)
    (List.forall_mem_nil _) ?_
  intro q hq
  cases hq
theorem r_law_is_link (X : K.In h) (G : h.Ns mainGlobals mg) (c : He.SaysX facts fns [] tfs ex w h K) : FnR (Tk K) (Bs K mg) P w K mg "_law_is_link" f_law_is_link := by
  obtain ⟨fd, F⟩ := c.t.d.def_ 14 (d := d_law_is_link) rfl
  refine fnr_of F (He.glo_ok X G (c.t.d.fact 14 (f := .glo "_law_is_link") rfl)) sc_law_is_link rfl rfl c_law_is_link (fun _ _ _ _ _ _ us hl => match us, hl with | [_, _], _ => rfl)
    (fun _ hks => nomatch hks)
    (List.forall_mem_cons.mpr ⟨no_isinstance X G c, List.forall_mem_cons.mpr ⟨no_len X G c, List.forall_mem_cons.mpr ⟨no_tuple X G c, List.forall_mem_nil _⟩⟩⟩)
    (List.forall_mem_cons.mpr ⟨r_law_is_number X G c, List.forall_mem_nil _⟩)
    (List.forall_mem_nil _)
    (List.forall_mem_nil _)
    (List.forall_mem_nil _) ?_
  intro q hq
  cases hq
theorem r_law_is_find (X : K.In h) (G : h.Ns mainGlobals mg) (c : He.SaysX facts fns [] tfs ex w h K) : FnR (Tk K) (Bs K mg) P w K mg "_law_is_find" f_law_is_find := by
  obtain ⟨fd, F⟩ := c.t.d.def_ 15 (d := d_law_is_find) rfl
  refine fnr_of F (He.glo_ok X G (c.t.d.fact 15 (f := .glo "_law_is_find") rfl)) sc_law_is_find rfl rfl c_law_is_find (fun _ _ _ _ _ _ us hl => match us, hl with | [_, _], _ => rfl)
    (fun _ hks => nomatch hks)
    (List.forall_mem_cons.mpr ⟨no_isinstance X G c, List.forall_mem_cons.mpr ⟨no_len X G c, List.forall_mem_cons.mpr ⟨no_str X G c, List.forall_mem_cons.mpr ⟨no_tuple X G c, List.forall_mem_nil _⟩⟩⟩⟩)
    (List.forall_mem_cons.mpr ⟨r_law_is_number X G c, List.forall_mem_nil _⟩)
    (List.forall_mem_nil _)
    (List.forall_mem_nil _)
    (List.forall_mem_nil _) ?_
  intro q hq
  cases hq
theorem r_is_count (X : K.In h) (G : h.Ns mainGlobals mg) (c : He.SaysX facts fns [] tfs ex w h K) : FnR (Tk K) (Bs K mg) P w K mg "is_count" f_is_count := by
  obtain ⟨fd, F⟩ := c.t.d.def_ 16 (d := d_is_count) rfl
  refine fnr_of F (He.glo_ok X G (c.t.d.fact 16 (f := .glo "is_count") rfl)) sc_is_count rfl rfl c_is_count (fun _ _ _ _ _ _ us hl => match us, hl with | [_], _ => rfl)
    (fun _ hks => nomatch hks)
    (List.forall_mem_nil _)
    (List.forall_mem_cons.mpr ⟨r_is_integer X G c, List.forall_mem_nil _⟩)
    (List.forall_mem_nil _)
    (List.forall_mem_nil _)
    (List.forall_mem_nil _) ?_
  intro q hq
  cases hq
theorem r_law_right (X : K.In h) (G : h.Ns mainGlobals mg) (c : He.SaysX facts fns [] tfs ex w h K) : FnR (Tk K) (Bs K mg) P w K mg "_law_right" f_law_right := by
  obtain ⟨fd, F⟩ := c.t.d.def_ 17 (d := d_law_right) rfl
  refine fnr_of F (He.glo_ok X G (c.t.d.fact 17 (f := .glo "_law_right") rfl)) sc_law_right rfl rfl c_law_right (fun _ _ _ _ _ _ us hl => match us, hl with | [_], _ => rfl)
    (fun _ hks => nomatch hks)
    (List.forall_mem_cons.mpr ⟨no_range X G c, List.forall_mem_cons.mpr ⟨no_repr X G c, List.forall_mem_nil _⟩⟩)
    (List.forall_mem_cons.mpr ⟨r_law_draw X G c, List.forall_mem_cons.mpr ⟨r_law_pick X G c, List.forall_mem_cons.mpr ⟨r_law_odd X G c, List.forall_mem_cons.mpr ⟨r_law_near X G c, List.forall_mem_cons.mpr ⟨r_law_bent X G c, List.forall_mem_cons.mpr ⟨r_law_is_number X G c, List.forall_mem_cons.mpr ⟨r_is_integer X G c, List.forall_mem_cons.mpr ⟨r_is_link X G c, List.forall_mem_cons.mpr ⟨r_is_year X G c, List.forall_mem_cons.mpr ⟨r_is_find X G c, List.forall_mem_cons.mpr ⟨r_law_is_link X G c, List.forall_mem_cons.mpr ⟨r_law_is_find X G c, List.forall_mem_cons.mpr ⟨r_is_count X G c, List.forall_mem_nil _⟩⟩⟩⟩⟩⟩⟩⟩⟩⟩⟩⟩⟩)
    (List.forall_mem_nil _)
    (List.forall_mem_nil _)
    (List.forall_mem_cons.mpr ⟨q_law_heard X G c, List.forall_mem_nil _⟩) ?_
  intro q hq
  cases hq
  refine ⟨rfl, (He.cT K ("_law_right", none)).1, (He.cT K ("_law_right", none)).2, fun oc od fd2 osl lk => ?_, fun base hB => hB _ (by simp [tfs]), by simp [Tk]; try rfl, fun p hp e => ?_⟩
  · obtain ⟨_, _, _, _, _, _, _, _, _, _, e1, lk2, hcd, _⟩ := F.ex
    obtain ⟨cd, ecd⟩ := He.codeIn_ref hcd
    have lk3 : K.lookup (He.fAd K ("_law_right", none)) = some ⟨oc, od, .func fd2, osl⟩ := lk
    have lk4 : K.lookup (He.fAd K ("_law_right", none)) = _ := lk2
    have e3 := lk3.symm.trans lk4
    cases e3
    rw [e1]
    refine ecd.trans (congrArg Value.ref ?_)
    exact (He.codeOf_eq lk3 (by rw [e1]; exact ecd)).symm
  · simp [Tk] at hp
    subst hp
    rfl
theorem r_law_pot (X : K.In h) (G : h.Ns mainGlobals mg) (c : He.SaysX facts fns [] tfs ex w h K) : FnR (Tk K) (Bs K mg) P w K mg "_law_pot" f_law_pot := by
  obtain ⟨fd, F⟩ := c.t.d.def_ 18 (d := d_law_pot) rfl
  refine fnr_of F (He.glo_ok X G (c.t.d.fact 18 (f := .glo "_law_pot") rfl)) sc_law_pot rfl rfl c_law_pot (fun _ _ _ _ _ _ us hl => match us, hl with | [_, _], _ => rfl)
    (fun _ hks => nomatch hks)
    (List.forall_mem_cons.mpr ⟨no_abs X G c, List.forall_mem_cons.mpr ⟨no_int X G c, List.forall_mem_cons.mpr ⟨no_len X G c, List.forall_mem_cons.mpr ⟨no_max X G c, List.forall_mem_nil _⟩⟩⟩⟩)
    (List.forall_mem_nil _)
    (List.forall_mem_nil _)
    (List.forall_mem_nil _)
    (List.forall_mem_nil _) ?_
  intro q hq
  cases hq
theorem r_law (X : K.In h) (G : h.Ns mainGlobals mg) (c : He.SaysX facts fns [] tfs ex w h K) : FnR (Tk K) (Bs K mg) P w K mg "law" f_law := by
  obtain ⟨fd, F⟩ := c.t.d.def_ 19 (d := d_law) rfl
  refine fnr_of F (He.glo_ok X G (c.t.d.fact 19 (f := .glo "law") rfl)) sc_law rfl rfl c_law (fun _ _ _ _ _ _ us hl => match us, hl with | [_], _ => rfl)
    (fun _ hks => nomatch hks)
    (List.forall_mem_cons.mpr ⟨no_all X G c, List.forall_mem_cons.mpr ⟨no_len X G c, List.forall_mem_cons.mpr ⟨no_max X G c, List.forall_mem_cons.mpr ⟨no_min X G c, List.forall_mem_cons.mpr ⟨no_range X G c, List.forall_mem_nil _⟩⟩⟩⟩⟩)
    (List.forall_mem_cons.mpr ⟨r_law_right X G c, List.forall_mem_cons.mpr ⟨r_law_pot X G c, List.forall_mem_nil _⟩⟩)
    (List.forall_mem_nil _)
    (List.forall_mem_nil _)
    (List.forall_mem_nil _) ?_
  intro q hq
  cases hq
end
abbrev R : PySem.W.OpenRow := PySem.W.OpenLaw.row PySem.Challenge.rw_datedlayers_k10_any_values_as_numbers_li
abbrev hk : PySem.W.Hook := He.hookX 5 facts fns [] tfs ex
def ob (s : PySem.W.SharedT) : He.AlX := He.obsX 5 facts fns [] tfs ex (HandSHeadRun.getT s)
theorem ob_eq (s : PySem.W.SharedT) : ob s = hk.obs s.abs := He.obsX_eq (HandSHeadRun.getT_eq s)
end K10

set_option maxHeartbeats 0
/-! K10: the run of the top. -/
namespace K10
open PySem PySem.Spec PyProof.Rows L2 DL
def loose : List PySem.Str := ["DigError", "InvalidLayers", "MOST_YEAR", "is_integer", "is_count", "is_within", "is_year", "MOST_LAYERS", "MOST_GAP", "MOST_TRUST", "AFTER", "BEFORE", "is_link_of", "is_find_of", "want_layers", "is_link", "is_find", "_law_pot", "_law_draw", "_law_pick", "_law_is_number", "_law_is_link", "_law_is_find", "_law_odd", "_law_near", "_law_bent", "_law_heard", "_law_right"]
theorem run (w : World) : HandSHeadRun.RunEq R (PySem.W.view R.prog [32]) hk ob 3000 loose w := by
  intro os
  kernel_rfl
end K10

set_option maxHeartbeats 4000000
/-! K10p: what the defs of the law do, in plain words. -/
namespace K10
open PySem PySem.Spec PyProof.Rows L2 DL

def pot (a b : Int) : Cell := .ow [.int a, .int b]
def nb (a b : Int) : Int := if 0 < a then b else (b * 40014 + 1237) % 2147483563
def na (a n : Int) : Int := if 0 < a then a / n else a
def dig (a b n : Int) : Int := if 0 < a then a % n else nb a b * nb a b % 2147483549 / 17 % n
theorem dig_bd (a b : Int) {n : Int} (h : 1 ≤ n) : 0 ≤ dig a b n ∧ dig a b n < n := by
  unfold dig
  split
  · exact ⟨Int.emod_nonneg _ (by omega), Int.emod_lt_of_pos _ (by omega)⟩
  · exact ⟨Int.emod_nonneg _ (by omega), Int.emod_lt_of_pos _ (by omega)⟩
theorem draw_sem (a b n : Int) (h1 : 1 ≤ n) (h2 : n < 1073741824) : f_law_draw.sem [pot a b, .fz (.int n)] = .ok (.fz (.int (dig a b n))) [pot (na a n) (nb a b), .fz (.int n)] := by
  have p1 : (0 : Int) < n := by omega
  have r1 := Int.emod_nonneg (b * 40014 + 1237) (show (2147483563 : Int) ≠ 0 by decide)
  have r2 := Int.emod_lt_of_pos (b * 40014 + 1237) (show (0 : Int) < 2147483563 by decide)
  have k1 : okMul b 40014 = true := by simp [okMul]
  have k2 : okMul ((b * 40014 + 1237) % 2147483563) ((b * 40014 + 1237) % 2147483563) = true := by
    unfold okMul
    rw [Bool.or_eq_true]
    left
    exact decide_eq_true (by omega)
  by_cases h : 0 < a
  · simp [f_law_draw, slotD, gGtX, gMulX, gAddX, runF, pad, m_law_draw, sSeq, sIf, SRes.seq, DRes.stm, DRes.andThen, mCmp, mOptB, Opd.ev, Opd.now, mFz, mOp, mOpt, mC, gIx, atI, ixN, gCI, Val.d, pot, na, nb, dig, h, sAsg, tgV, tgsV, gDivmod, p1, h2, sRetV, isOw, Tgts.len, Val.cell, sNx]
  · simp [f_law_draw, slotD, gGtX, gMulX, gAddX, runF, pad, m_law_draw, sSeq, sIf, SRes.seq, DRes.stm, DRes.andThen, mCmp, mOptB, Opd.ev, Opd.now, mFz, mOp, mOp1, mOpt, mC, mV, gIx, atI, ixN, gCI, Val.d, pot, na, nb, dig, h, sAsg, tgV, tgsV, p1, h2, sRetV, isOw, Tgts.len, Val.cell, sNx, gOr, gMulI, gAddI, gModI, gDivI, gI, gInt, k1, k2, sRet]

def isInt : D → Bool
  | .int _ => true
  | _ => false
def within (v : D) (lo hi : Int) : Bool := match v with
  | .int i => decide (lo ≤ i ∧ i ≤ hi)
  | _ => false
theorem scr_of {v : D} (h : v.plain = true) : isScr v = false := by
  cases v <;> first | rfl | simp [PyData.plain] at h
theorem is_integer_sem (v : D) (ns : isScr v = false) : f_is_integer.sem [.fz v] = .ok (.fz (.bool (isInt v))) [.fz v] := by
  cases v <;> simp [f_is_integer, m_is_integer, isInt, slotD, gGtX, gLtX, gLeX, gGeX, gEqX, gIsX, gNotX, gMulX, gAddX, runF, DL.pad, sSeq, sIf, SRes.seq, DRes.stm, DRes.andThen, mCmp, mChain, mOptB, Opd.ev, Opd.now, mFz, mOp, mOp1, mOpt, mC, mV, gIx, atI, ixN, gCI, Val.d, sAsg, tgV, tgsV, gDivmod, sRetV, isOw, Tgts.len, Val.cell, sNx, gOr, gOrB, gMulI, gAddI, gSubI, gModI, gDivI, gI, gInt, gNeg, sRet, mAnd, mOr, mNot, mIf, mAndV, mOrV, mNotV, mBV, mToB, mTru, gTru, mTup, mLst, mAll, mCall', mCall, mCallK, slotsOk, mArgs, callF, cellsOf, DL.cellOf, lentOf, backTo', sDrop, mApp', mApp, sPar, mVals, puts, mSl, mPart, gSl, gIsi, isScr, isTy, gLen, reord]
  rename_i l
  unfold isScr at ns
  split at ns <;> simp_all
theorem is_within_sem (v : D) (lo hi : Int) (ns : isScr v = false) : f_is_within.sem [.fz v, .fz (.int lo), .fz (.int hi)] = .ok (.fz (.bool (within v lo hi))) [.fz v, .fz (.int lo), .fz (.int hi)] := by
  have h := is_integer_sem v ns
  cases v <;> simp [f_is_within, m_is_within, h, isInt, within, slotD, gGtX, gLtX, gLeX, gGeX, gEqX, gIsX, gNotX, gMulX, gAddX, runF, DL.pad, sSeq, sIf, SRes.seq, DRes.stm, DRes.andThen, mCmp, mChain, mOptB, Opd.ev, Opd.now, mFz, mOp, mOp1, mOpt, mC, mV, gIx, atI, ixN, gCI, Val.d, sAsg, tgV, tgsV, gDivmod, sRetV, isOw, Tgts.len, Val.cell, sNx, gOr, gOrB, gMulI, gAddI, gSubI, gModI, gDivI, gI, gInt, gNeg, sRet, mAnd, mOr, mNot, mIf, mAndV, mOrV, mNotV, mBV, mToB, mTru, gTru, mTup, mLst, mAll, mCall', mCall, mCallK, slotsOk, mArgs, callF, cellsOf, DL.cellOf, lentOf, backTo', sDrop, mApp', mApp, sPar, mVals, puts, mSl, mPart, gSl, gIsi, isScr, isTy, gLen, reord]
  rename_i i
  by_cases h1 : lo ≤ i <;> by_cases h2 : i ≤ hi <;> simp [h1, h2]
theorem is_year_sem (v : D) (ns : isScr v = false) : f_is_year.sem [.fz v] = .ok (.fz (.bool (within v (-99999) 99999))) [.fz v] := by
  have h := is_within_sem v (-99999) 99999 ns
  simp [f_is_year, m_is_year, h, slotD, gGtX, gLtX, gLeX, gGeX, gEqX, gIsX, gNotX, gMulX, gAddX, runF, DL.pad, sSeq, sIf, SRes.seq, DRes.stm, DRes.andThen, mCmp, mChain, mOptB, Opd.ev, Opd.now, mFz, mOp, mOp1, mOpt, mC, mV, gIx, atI, ixN, gCI, Val.d, sAsg, tgV, tgsV, gDivmod, sRetV, isOw, Tgts.len, Val.cell, sNx, gOr, gOrB, gMulI, gAddI, gSubI, gModI, gDivI, gI, gInt, gNeg, sRet, mAnd, mOr, mNot, mIf, mAndV, mOrV, mNotV, mBV, mToB, mTru, gTru, mTup, mLst, mAll, mCall', mCall, mCallK, slotsOk, mArgs, callF, cellsOf, DL.cellOf, lentOf, backTo', sDrop, mApp', mApp, sPar, mVals, puts, mSl, mPart, gSl, gIsi, isScr, isTy, gLen, reord]

theorem within_int {v : D} {lo hi : Int} (h : within v lo hi = true) : ∃ i, v = .int i ∧ lo ≤ i ∧ i ≤ hi := by
  cases v <;> first | (cases h; done) | skip
  rename_i i
  obtain ⟨h1, h2⟩ := of_decide_eq_true h
  exact ⟨i, rfl, h1, h2⟩

def linkB (l : Int) : D → Bool
  | .tuple [] => true
  | .tuple [u, w, g] => within u 0 (l - 1) && within w 0 (l - 1) && !PyData.eqv u w && within g (-9999) 9999
  | _ => false
def findB (l : Int) : D → Bool
  | .tuple [] => true
  | .tuple [.str s, a, y, t] => (s == "after" || s == "before") && within a 0 (l - 1) && within y (-99999) 99999 && within t 1 9999
  | _ => false
/-- no script, nor one in a tuple -/
def nsc : D → Prop
  | .tuple xs => ∀ x ∈ xs, isScr x = false
  | v => isScr v = false
theorem nsc_scr {v : D} (h : nsc v) : isScr v = false := by
  cases v <;> first | rfl | exact h
theorem not_three {n : Nat} (h1 : n ≠ 0) (h3 : n ≠ 3) : gNotIn (.int n) (.tuple [.int 0, .int 3]) = some true := by
  have e1 : ((0 : Int) == (n : Int)) = false := by simp; omega
  have e3 : ((3 : Int) == (n : Int)) = false := by simp; omega
  simp [gNotIn, gIn, PyData.plain, PyData.plainAll, shal, PyData.depth, PyData.eqv, e1, e3]
theorem not_four {n : Nat} (h1 : n ≠ 0) (h3 : n ≠ 4) : gNotIn (.int n) (.tuple [.int 0, .int 4]) = some true := by
  have e1 : ((0 : Int) == (n : Int)) = false := by simp; omega
  have e3 : ((4 : Int) == (n : Int)) = false := by simp; omega
  simp [gNotIn, gIn, PyData.plain, PyData.plainAll, shal, PyData.depth, PyData.eqv, e1, e3]
theorem is_03 : gNotIn (.int 3) (.tuple [.int 0, .int 3]) = some false ∧ gNotIn (.int 0) (.tuple [.int 0, .int 3]) = some false ∧ gNotIn (.int 4) (.tuple [.int 0, .int 4]) = some false ∧ gNotIn (.int 0) (.tuple [.int 0, .int 4]) = some false := by
  simp [gNotIn, gIn, PyData.plain, PyData.plainAll, shal, PyData.depth, PyData.eqv]
theorem is_link_sem (l : Int) (v : D) (hp : nsc v) : f_is_link_of.sem [.fz (.int l), .fz v] = .ok (.fz (.bool (linkB l v))) [.fz (.int l), .fz v] := by
  obtain ⟨q1, q2, q3, q4⟩ := is_03
  cases v with
  | tuple xs =>
    have pl : ∀ x ∈ xs, isScr x = false := hp
    match xs, pl with
    | [], _ => simp [f_is_link_of, m_is_link_of, linkB, q2, gEqN, slotD, gGtX, gLtX, gLeX, gGeX, gEqX, gIsX, gNotX, gMulX, gAddX, runF, DL.pad, sSeq, sIf, SRes.seq, DRes.stm, DRes.andThen, mCmp, mChain, mOptB, Opd.ev, Opd.now, mFz, mOp, mOp1, mOpt, mC, mV, gIx, atI, ixN, gCI, Val.d, sAsg, tgV, tgsV, gDivmod, sRetV, isOw, Tgts.len, Val.cell, sNx, gOr, gOrB, gMulI, gAddI, gSubI, gModI, gDivI, gI, gInt, gNeg, sRet, mAnd, mOr, mNot, mIf, mAndV, mOrV, mNotV, mBV, mToB, mTru, gTru, mTup, mLst, mAll, mCall', mCall, mCallK, slotsOk, mArgs, callF, cellsOf, DL.cellOf, lentOf, backTo', sDrop, mApp', mApp, sPar, mVals, puts, mSl, mPart, gSl, gIsi, isScr, isTy, gLen, reord]
    | [u, w, g], pl =>
      have pu := pl u (by simp)
      have pw := pl w (by simp)
      have pg := pl g (by simp)
      have hu := is_within_sem u 0 (l - 1) pu
      have hw := is_within_sem w 0 (l - 1) pw
      have hg := is_within_sem g (-9999) 9999 pg
      cases eu : within u 0 (l - 1) with
      | false => simp [f_is_link_of, m_is_link_of, linkB, q1, gEqN, hu, eu, slotD, gGtX, gLtX, gLeX, gGeX, gEqX, gIsX, gNotX, gMulX, gAddX, runF, DL.pad, sSeq, sIf, SRes.seq, DRes.stm, DRes.andThen, mCmp, mChain, mOptB, Opd.ev, Opd.now, mFz, mOp, mOp1, mOpt, mC, mV, gIx, atI, ixN, gCI, Val.d, sAsg, tgV, tgsV, gDivmod, sRetV, isOw, Tgts.len, Val.cell, sNx, gOr, gOrB, gMulI, gAddI, gSubI, gModI, gDivI, gI, gInt, gNeg, sRet, mAnd, mOr, mNot, mIf, mAndV, mOrV, mNotV, mBV, mToB, mTru, gTru, mTup, mLst, mAll, mCall', mCall, mCallK, slotsOk, mArgs, callF, cellsOf, DL.cellOf, lentOf, backTo', sDrop, mApp', mApp, sPar, mVals, puts, mSl, mPart, gSl, gIsi, isScr, isTy, gLen, reord]
      | true =>
        cases ew : within w 0 (l - 1) with
        | false => simp [f_is_link_of, m_is_link_of, linkB, q1, gEqN, hu, eu, hw, ew, slotD, gGtX, gLtX, gLeX, gGeX, gEqX, gIsX, gNotX, gMulX, gAddX, runF, DL.pad, sSeq, sIf, SRes.seq, DRes.stm, DRes.andThen, mCmp, mChain, mOptB, Opd.ev, Opd.now, mFz, mOp, mOp1, mOpt, mC, mV, gIx, atI, ixN, gCI, Val.d, sAsg, tgV, tgsV, gDivmod, sRetV, isOw, Tgts.len, Val.cell, sNx, gOr, gOrB, gMulI, gAddI, gSubI, gModI, gDivI, gI, gInt, gNeg, sRet, mAnd, mOr, mNot, mIf, mAndV, mOrV, mNotV, mBV, mToB, mTru, gTru, mTup, mLst, mAll, mCall', mCall, mCallK, slotsOk, mArgs, callF, cellsOf, DL.cellOf, lentOf, backTo', sDrop, mApp', mApp, sPar, mVals, puts, mSl, mPart, gSl, gIsi, isScr, isTy, gLen, reord]
        | true =>
          obtain ⟨i, rfl, _⟩ := within_int eu
          obtain ⟨j, rfl, _⟩ := within_int ew
          have pe : gEqP (.int i) (.int j) = some (i == j) := by simp [gEqP, PyData.plain, shal, PyData.depth, PyData.eqv]
          by_cases hij : i = j
          · subst hij
            simp [f_is_link_of, m_is_link_of, linkB, q1, gEqN, hu, eu, hw, ew, pe, PyData.eqv, slotD, gGtX, gLtX, gLeX, gGeX, gEqX, gIsX, gNotX, gMulX, gAddX, runF, DL.pad, sSeq, sIf, SRes.seq, DRes.stm, DRes.andThen, mCmp, mChain, mOptB, Opd.ev, Opd.now, mFz, mOp, mOp1, mOpt, mC, mV, gIx, atI, ixN, gCI, Val.d, sAsg, tgV, tgsV, gDivmod, sRetV, isOw, Tgts.len, Val.cell, sNx, gOr, gOrB, gMulI, gAddI, gSubI, gModI, gDivI, gI, gInt, gNeg, sRet, mAnd, mOr, mNot, mIf, mAndV, mOrV, mNotV, mBV, mToB, mTru, gTru, mTup, mLst, mAll, mCall', mCall, mCallK, slotsOk, mArgs, callF, cellsOf, DL.cellOf, lentOf, backTo', sDrop, mApp', mApp, sPar, mVals, puts, mSl, mPart, gSl, gIsi, isScr, isTy, gLen, reord]
          · simp [f_is_link_of, m_is_link_of, linkB, q1, gEqN, hu, eu, hw, ew, pe, hij, hg, PyData.eqv, slotD, gGtX, gLtX, gLeX, gGeX, gEqX, gIsX, gNotX, gMulX, gAddX, runF, DL.pad, sSeq, sIf, SRes.seq, DRes.stm, DRes.andThen, mCmp, mChain, mOptB, Opd.ev, Opd.now, mFz, mOp, mOp1, mOpt, mC, mV, gIx, atI, ixN, gCI, Val.d, sAsg, tgV, tgsV, gDivmod, sRetV, isOw, Tgts.len, Val.cell, sNx, gOr, gOrB, gMulI, gAddI, gSubI, gModI, gDivI, gI, gInt, gNeg, sRet, mAnd, mOr, mNot, mIf, mAndV, mOrV, mNotV, mBV, mToB, mTru, gTru, mTup, mLst, mAll, mCall', mCall, mCallK, slotsOk, mArgs, callF, cellsOf, DL.cellOf, lentOf, backTo', sDrop, mApp', mApp, sPar, mVals, puts, mSl, mPart, gSl, gIsi, isScr, isTy, gLen, reord]
    | [a], _ => 
      have z : gNotIn (.int 1) (.tuple [.int 0, .int 3]) = some true := not_three (n := 1) (by decide) (by decide)
      simp [f_is_link_of, m_is_link_of, linkB, z, slotD, gGtX, gLtX, gLeX, gGeX, gEqX, gIsX, gNotX, gMulX, gAddX, runF, DL.pad, sSeq, sIf, SRes.seq, DRes.stm, DRes.andThen, mCmp, mChain, mOptB, Opd.ev, Opd.now, mFz, mOp, mOp1, mOpt, mC, mV, gIx, atI, ixN, gCI, Val.d, sAsg, tgV, tgsV, gDivmod, sRetV, isOw, Tgts.len, Val.cell, sNx, gOr, gOrB, gMulI, gAddI, gSubI, gModI, gDivI, gI, gInt, gNeg, sRet, mAnd, mOr, mNot, mIf, mAndV, mOrV, mNotV, mBV, mToB, mTru, gTru, mTup, mLst, mAll, mCall', mCall, mCallK, slotsOk, mArgs, callF, cellsOf, DL.cellOf, lentOf, backTo', sDrop, mApp', mApp, sPar, mVals, puts, mSl, mPart, gSl, gIsi, isScr, isTy, gLen, reord]
    | [a, b], _ =>
      have z : gNotIn (.int 2) (.tuple [.int 0, .int 3]) = some true := not_three (n := 2) (by decide) (by decide)
      simp [f_is_link_of, m_is_link_of, linkB, z, slotD, gGtX, gLtX, gLeX, gGeX, gEqX, gIsX, gNotX, gMulX, gAddX, runF, DL.pad, sSeq, sIf, SRes.seq, DRes.stm, DRes.andThen, mCmp, mChain, mOptB, Opd.ev, Opd.now, mFz, mOp, mOp1, mOpt, mC, mV, gIx, atI, ixN, gCI, Val.d, sAsg, tgV, tgsV, gDivmod, sRetV, isOw, Tgts.len, Val.cell, sNx, gOr, gOrB, gMulI, gAddI, gSubI, gModI, gDivI, gI, gInt, gNeg, sRet, mAnd, mOr, mNot, mIf, mAndV, mOrV, mNotV, mBV, mToB, mTru, gTru, mTup, mLst, mAll, mCall', mCall, mCallK, slotsOk, mArgs, callF, cellsOf, DL.cellOf, lentOf, backTo', sDrop, mApp', mApp, sPar, mVals, puts, mSl, mPart, gSl, gIsi, isScr, isTy, gLen, reord]
    | a :: b :: d :: e :: r, _ =>
      have z : gNotIn (.int ((r.length : Int) + 1 + 1 + 1 + 1)) (.tuple [.int 0, .int 3]) = some true := not_three (n := r.length + 4) (by omega) (by omega)
      simp [f_is_link_of, m_is_link_of, linkB, z, slotD, gGtX, gLtX, gLeX, gGeX, gEqX, gIsX, gNotX, gMulX, gAddX, runF, DL.pad, sSeq, sIf, SRes.seq, DRes.stm, DRes.andThen, mCmp, mChain, mOptB, Opd.ev, Opd.now, mFz, mOp, mOp1, mOpt, mC, mV, gIx, atI, ixN, gCI, Val.d, sAsg, tgV, tgsV, gDivmod, sRetV, isOw, Tgts.len, Val.cell, sNx, gOr, gOrB, gMulI, gAddI, gSubI, gModI, gDivI, gI, gInt, gNeg, sRet, mAnd, mOr, mNot, mIf, mAndV, mOrV, mNotV, mBV, mToB, mTru, gTru, mTup, mLst, mAll, mCall', mCall, mCallK, slotsOk, mArgs, callF, cellsOf, DL.cellOf, lentOf, backTo', sDrop, mApp', mApp, sPar, mVals, puts, mSl, mPart, gSl, gIsi, isScr, isTy, gLen, reord]
  | dict l =>
    have ps : isScr (.dict l) = false := hp
    simp [f_is_link_of, m_is_link_of, linkB, ps, slotD, gGtX, gLtX, gLeX, gGeX, gEqX, gIsX, gNotX, gMulX, gAddX, runF, DL.pad, sSeq, sIf, SRes.seq, DRes.stm, DRes.andThen, mCmp, mChain, mOptB, Opd.ev, Opd.now, mFz, mOp, mOp1, mOpt, mC, mV, gIx, atI, ixN, gCI, Val.d, sAsg, tgV, tgsV, gDivmod, sRetV, isOw, Tgts.len, Val.cell, sNx, gOr, gOrB, gMulI, gAddI, gSubI, gModI, gDivI, gI, gInt, gNeg, sRet, mAnd, mOr, mNot, mIf, mAndV, mOrV, mNotV, mBV, mToB, mTru, gTru, mTup, mLst, mAll, mCall', mCall, mCallK, slotsOk, mArgs, callF, cellsOf, DL.cellOf, lentOf, backTo', sDrop, mApp', mApp, sPar, mVals, puts, mSl, mPart, gSl, gIsi, isTy, gLen, reord]
  | _ => simp [f_is_link_of, m_is_link_of, linkB, slotD, gGtX, gLtX, gLeX, gGeX, gEqX, gIsX, gNotX, gMulX, gAddX, runF, DL.pad, sSeq, sIf, SRes.seq, DRes.stm, DRes.andThen, mCmp, mChain, mOptB, Opd.ev, Opd.now, mFz, mOp, mOp1, mOpt, mC, mV, gIx, atI, ixN, gCI, Val.d, sAsg, tgV, tgsV, gDivmod, sRetV, isOw, Tgts.len, Val.cell, sNx, gOr, gOrB, gMulI, gAddI, gSubI, gModI, gDivI, gI, gInt, gNeg, sRet, mAnd, mOr, mNot, mIf, mAndV, mOrV, mNotV, mBV, mToB, mTru, gTru, mTup, mLst, mAll, mCall', mCall, mCallK, slotsOk, mArgs, callF, cellsOf, DL.cellOf, lentOf, backTo', sDrop, mApp', mApp, sPar, mVals, puts, mSl, mPart, gSl, gIsi, isScr, isTy, gLen, reord]

theorem is_find_sem (l : Int) (v : D) (hp : nsc v) : f_is_find_of.sem [.fz (.int l), .fz v] = .ok (.fz (.bool (findB l v))) [.fz (.int l), .fz v] := by
  obtain ⟨q1, q2, q3, q4⟩ := is_03
  cases v with
  | tuple xs =>
    have pl : ∀ x ∈ xs, isScr x = false := hp
    match xs, pl with
    | [], _ => simp [f_is_find_of, m_is_find_of, findB, q4, gEqN, slotD, gGtX, gLtX, gLeX, gGeX, gEqX, gIsX, gNotX, gMulX, gAddX, runF, DL.pad, sSeq, sIf, SRes.seq, DRes.stm, DRes.andThen, mCmp, mChain, mOptB, Opd.ev, Opd.now, mFz, mOp, mOp1, mOpt, mC, mV, gIx, atI, ixN, gCI, Val.d, sAsg, tgV, tgsV, gDivmod, sRetV, isOw, Tgts.len, Val.cell, sNx, gOr, gOrB, gMulI, gAddI, gSubI, gModI, gDivI, gI, gInt, gNeg, sRet, mAnd, mOr, mNot, mIf, mAndV, mOrV, mNotV, mBV, mToB, mTru, gTru, mTup, mLst, mAll, mCall', mCall, mCallK, slotsOk, mArgs, callF, cellsOf, DL.cellOf, lentOf, backTo', sDrop, mApp', mApp, sPar, mVals, puts, mSl, mPart, gSl, gIsi, isScr, isTy, gLen, reord]
    | [s, a, y, t], pl =>
      have pa := is_within_sem a 0 (l - 1) (pl a (by simp))
      have py := is_year_sem y (pl y (by simp))
      have pt := is_within_sem t 1 9999 (pl t (by simp))
      cases s with
      | str x =>
        have z : gNotIn (.str x) (.tuple [.str "after", .str "before"]) = some (!(x == "after" || x == "before")) := by
          simp [gNotIn, gIn, PyData.plain, PyData.plainAll, shal, PyData.depth, PyData.eqv, Bool.beq_comm (a := x)]
        cases hx : (x == "after" || x == "before") with
        | false => simp [f_is_find_of, m_is_find_of, findB, q3, gEqN, z, hx, slotD, gGtX, gLtX, gLeX, gGeX, gEqX, gIsX, gNotX, gMulX, gAddX, runF, DL.pad, sSeq, sIf, SRes.seq, DRes.stm, DRes.andThen, mCmp, mChain, mOptB, Opd.ev, Opd.now, mFz, mOp, mOp1, mOpt, mC, mV, gIx, atI, ixN, gCI, Val.d, sAsg, tgV, tgsV, gDivmod, sRetV, isOw, Tgts.len, Val.cell, sNx, gOr, gOrB, gMulI, gAddI, gSubI, gModI, gDivI, gI, gInt, gNeg, sRet, mAnd, mOr, mNot, mIf, mAndV, mOrV, mNotV, mBV, mToB, mTru, gTru, mTup, mLst, mAll, mCall', mCall, mCallK, slotsOk, mArgs, callF, cellsOf, DL.cellOf, lentOf, backTo', sDrop, mApp', mApp, sPar, mVals, puts, mSl, mPart, gSl, gIsi, isScr, isTy, gLen, reord]
        | true =>
          cases ha : within a 0 (l - 1) <;> cases hy : within y (-99999) 99999 <;> simp [f_is_find_of, m_is_find_of, findB, q3, gEqN, z, hx, pa, py, pt, ha, hy, slotD, gGtX, gLtX, gLeX, gGeX, gEqX, gIsX, gNotX, gMulX, gAddX, runF, DL.pad, sSeq, sIf, SRes.seq, DRes.stm, DRes.andThen, mCmp, mChain, mOptB, Opd.ev, Opd.now, mFz, mOp, mOp1, mOpt, mC, mV, gIx, atI, ixN, gCI, Val.d, sAsg, tgV, tgsV, gDivmod, sRetV, isOw, Tgts.len, Val.cell, sNx, gOr, gOrB, gMulI, gAddI, gSubI, gModI, gDivI, gI, gInt, gNeg, sRet, mAnd, mOr, mNot, mIf, mAndV, mOrV, mNotV, mBV, mToB, mTru, gTru, mTup, mLst, mAll, mCall', mCall, mCallK, slotsOk, mArgs, callF, cellsOf, DL.cellOf, lentOf, backTo', sDrop, mApp', mApp, sPar, mVals, puts, mSl, mPart, gSl, gIsi, isScr, isTy, gLen, reord]
      | dict k =>
        have ps := pl (.dict k) (by simp)
        have pt2 : ∀ xs, isScr (.tuple xs) = false := fun _ => rfl
        simp [f_is_find_of, m_is_find_of, findB, q3, gEqN, ps, pt2, slotD, gGtX, gLtX, gLeX, gGeX, gEqX, gIsX, gNotX, gMulX, gAddX, runF, DL.pad, sSeq, sIf, SRes.seq, DRes.stm, DRes.andThen, mCmp, mChain, mOptB, Opd.ev, Opd.now, mFz, mOp, mOp1, mOpt, mC, mV, gIx, atI, ixN, gCI, Val.d, sAsg, tgV, tgsV, gDivmod, sRetV, isOw, Tgts.len, Val.cell, sNx, gOr, gOrB, gMulI, gAddI, gSubI, gModI, gDivI, gI, gInt, gNeg, sRet, mAnd, mOr, mNot, mIf, mAndV, mOrV, mNotV, mBV, mToB, mTru, gTru, mTup, mLst, mAll, mCall', mCall, mCallK, slotsOk, mArgs, callF, cellsOf, DL.cellOf, lentOf, backTo', sDrop, mApp', mApp, sPar, mVals, puts, mSl, mPart, gSl, gIsi, isTy, gLen, reord]
      | _ => simp [f_is_find_of, m_is_find_of, findB, q3, gEqN, slotD, gGtX, gLtX, gLeX, gGeX, gEqX, gIsX, gNotX, gMulX, gAddX, runF, DL.pad, sSeq, sIf, SRes.seq, DRes.stm, DRes.andThen, mCmp, mChain, mOptB, Opd.ev, Opd.now, mFz, mOp, mOp1, mOpt, mC, mV, gIx, atI, ixN, gCI, Val.d, sAsg, tgV, tgsV, gDivmod, sRetV, isOw, Tgts.len, Val.cell, sNx, gOr, gOrB, gMulI, gAddI, gSubI, gModI, gDivI, gI, gInt, gNeg, sRet, mAnd, mOr, mNot, mIf, mAndV, mOrV, mNotV, mBV, mToB, mTru, gTru, mTup, mLst, mAll, mCall', mCall, mCallK, slotsOk, mArgs, callF, cellsOf, DL.cellOf, lentOf, backTo', sDrop, mApp', mApp, sPar, mVals, puts, mSl, mPart, gSl, gIsi, isScr, isTy, gLen, reord]
    | [a], _ => 
      have z : gNotIn (.int 1) (.tuple [.int 0, .int 4]) = some true := not_four (n := 1) (by decide) (by decide)
      simp [f_is_find_of, m_is_find_of, findB, z, slotD, gGtX, gLtX, gLeX, gGeX, gEqX, gIsX, gNotX, gMulX, gAddX, runF, DL.pad, sSeq, sIf, SRes.seq, DRes.stm, DRes.andThen, mCmp, mChain, mOptB, Opd.ev, Opd.now, mFz, mOp, mOp1, mOpt, mC, mV, gIx, atI, ixN, gCI, Val.d, sAsg, tgV, tgsV, gDivmod, sRetV, isOw, Tgts.len, Val.cell, sNx, gOr, gOrB, gMulI, gAddI, gSubI, gModI, gDivI, gI, gInt, gNeg, sRet, mAnd, mOr, mNot, mIf, mAndV, mOrV, mNotV, mBV, mToB, mTru, gTru, mTup, mLst, mAll, mCall', mCall, mCallK, slotsOk, mArgs, callF, cellsOf, DL.cellOf, lentOf, backTo', sDrop, mApp', mApp, sPar, mVals, puts, mSl, mPart, gSl, gIsi, isScr, isTy, gLen, reord]
    | [a, b], _ =>
      have z : gNotIn (.int 2) (.tuple [.int 0, .int 4]) = some true := not_four (n := 2) (by decide) (by decide)
      simp [f_is_find_of, m_is_find_of, findB, z, slotD, gGtX, gLtX, gLeX, gGeX, gEqX, gIsX, gNotX, gMulX, gAddX, runF, DL.pad, sSeq, sIf, SRes.seq, DRes.stm, DRes.andThen, mCmp, mChain, mOptB, Opd.ev, Opd.now, mFz, mOp, mOp1, mOpt, mC, mV, gIx, atI, ixN, gCI, Val.d, sAsg, tgV, tgsV, gDivmod, sRetV, isOw, Tgts.len, Val.cell, sNx, gOr, gOrB, gMulI, gAddI, gSubI, gModI, gDivI, gI, gInt, gNeg, sRet, mAnd, mOr, mNot, mIf, mAndV, mOrV, mNotV, mBV, mToB, mTru, gTru, mTup, mLst, mAll, mCall', mCall, mCallK, slotsOk, mArgs, callF, cellsOf, DL.cellOf, lentOf, backTo', sDrop, mApp', mApp, sPar, mVals, puts, mSl, mPart, gSl, gIsi, isScr, isTy, gLen, reord]
    | [a, b, d], _ =>
      have z : gNotIn (.int 3) (.tuple [.int 0, .int 4]) = some true := not_four (n := 3) (by decide) (by decide)
      simp [f_is_find_of, m_is_find_of, findB, z, slotD, gGtX, gLtX, gLeX, gGeX, gEqX, gIsX, gNotX, gMulX, gAddX, runF, DL.pad, sSeq, sIf, SRes.seq, DRes.stm, DRes.andThen, mCmp, mChain, mOptB, Opd.ev, Opd.now, mFz, mOp, mOp1, mOpt, mC, mV, gIx, atI, ixN, gCI, Val.d, sAsg, tgV, tgsV, gDivmod, sRetV, isOw, Tgts.len, Val.cell, sNx, gOr, gOrB, gMulI, gAddI, gSubI, gModI, gDivI, gI, gInt, gNeg, sRet, mAnd, mOr, mNot, mIf, mAndV, mOrV, mNotV, mBV, mToB, mTru, gTru, mTup, mLst, mAll, mCall', mCall, mCallK, slotsOk, mArgs, callF, cellsOf, DL.cellOf, lentOf, backTo', sDrop, mApp', mApp, sPar, mVals, puts, mSl, mPart, gSl, gIsi, isScr, isTy, gLen, reord]
    | a :: b :: d :: e :: f :: r, _ =>
      have z : gNotIn (.int ((r.length : Int) + 1 + 1 + 1 + 1 + 1)) (.tuple [.int 0, .int 4]) = some true := not_four (n := r.length + 5) (by omega) (by omega)
      simp [f_is_find_of, m_is_find_of, findB, z, slotD, gGtX, gLtX, gLeX, gGeX, gEqX, gIsX, gNotX, gMulX, gAddX, runF, DL.pad, sSeq, sIf, SRes.seq, DRes.stm, DRes.andThen, mCmp, mChain, mOptB, Opd.ev, Opd.now, mFz, mOp, mOp1, mOpt, mC, mV, gIx, atI, ixN, gCI, Val.d, sAsg, tgV, tgsV, gDivmod, sRetV, isOw, Tgts.len, Val.cell, sNx, gOr, gOrB, gMulI, gAddI, gSubI, gModI, gDivI, gI, gInt, gNeg, sRet, mAnd, mOr, mNot, mIf, mAndV, mOrV, mNotV, mBV, mToB, mTru, gTru, mTup, mLst, mAll, mCall', mCall, mCallK, slotsOk, mArgs, callF, cellsOf, DL.cellOf, lentOf, backTo', sDrop, mApp', mApp, sPar, mVals, puts, mSl, mPart, gSl, gIsi, isScr, isTy, gLen, reord]
  | dict l =>
    have ps : isScr (.dict l) = false := hp
    simp [f_is_find_of, m_is_find_of, findB, ps, slotD, gGtX, gLtX, gLeX, gGeX, gEqX, gIsX, gNotX, gMulX, gAddX, runF, DL.pad, sSeq, sIf, SRes.seq, DRes.stm, DRes.andThen, mCmp, mChain, mOptB, Opd.ev, Opd.now, mFz, mOp, mOp1, mOpt, mC, mV, gIx, atI, ixN, gCI, Val.d, sAsg, tgV, tgsV, gDivmod, sRetV, isOw, Tgts.len, Val.cell, sNx, gOr, gOrB, gMulI, gAddI, gSubI, gModI, gDivI, gI, gInt, gNeg, sRet, mAnd, mOr, mNot, mIf, mAndV, mOrV, mNotV, mBV, mToB, mTru, gTru, mTup, mLst, mAll, mCall', mCall, mCallK, slotsOk, mArgs, callF, cellsOf, DL.cellOf, lentOf, backTo', sDrop, mApp', mApp, sPar, mVals, puts, mSl, mPart, gSl, gIsi, isTy, gLen, reord]
  | _ => simp [f_is_find_of, m_is_find_of, findB, slotD, gGtX, gLtX, gLeX, gGeX, gEqX, gIsX, gNotX, gMulX, gAddX, runF, DL.pad, sSeq, sIf, SRes.seq, DRes.stm, DRes.andThen, mCmp, mChain, mOptB, Opd.ev, Opd.now, mFz, mOp, mOp1, mOpt, mC, mV, gIx, atI, ixN, gCI, Val.d, sAsg, tgV, tgsV, gDivmod, sRetV, isOw, Tgts.len, Val.cell, sNx, gOr, gOrB, gMulI, gAddI, gSubI, gModI, gDivI, gI, gInt, gNeg, sRet, mAnd, mOr, mNot, mIf, mAndV, mOrV, mNotV, mBV, mToB, mTru, gTru, mTup, mLst, mAll, mCall', mCall, mCallK, slotsOk, mArgs, callF, cellsOf, DL.cellOf, lentOf, backTo', sDrop, mApp', mApp, sPar, mVals, puts, mSl, mPart, gSl, gIsi, isScr, isTy, gLen, reord]

def cntB (v : D) : Bool := match v with | .int i => decide (0 ≤ i) | _ => false
theorem count_sem (v : D) (ns : isScr v = false) : f_is_count.sem [.fz v] = .ok (.fz (.bool (cntB v))) [.fz v] := by
  have h := is_integer_sem v ns
  cases v <;> simp [f_is_count, m_is_count, h, isInt, cntB, slotD, gGtX, gLtX, gLeX, gGeX, gEqX, gIsX, gNotX, gMulX, gAddX, runF, DL.pad, sSeq, sIf, SRes.seq, DRes.stm, DRes.andThen, mCmp, mChain, mOptB, Opd.ev, Opd.now, mFz, mOp, mOp1, mOpt, mC, mV, gIx, atI, ixN, gCI, Val.d, sAsg, tgV, tgsV, gDivmod, sRetV, isOw, Tgts.len, Val.cell, sNx, gOr, gOrB, gMulI, gAddI, gSubI, gModI, gDivI, gI, gInt, gNeg, sRet, mAnd, mOr, mNot, mIf, mAndV, mOrV, mNotV, mBV, mToB, mTru, gTru, mTup, mLst, mAll, mCall', mCall, mCallK, slotsOk, mArgs, callF, cellsOf, DL.cellOf, lentOf, backTo', sDrop, mApp', mApp, sPar, mVals, puts, mSl, mPart, gSl, gIsi, isScr, isTy, gLen, reord]
theorem num_sem (v : D) (lo hi : Int) (ns : isScr v = false) : f_law_is_number.sem [.fz v, .fz (.int lo), .fz (.int hi)] = .ok (.fz (.bool (within v lo hi))) [.fz v, .fz (.int lo), .fz (.int hi)] := by
  cases v <;> simp [f_law_is_number, m_law_is_number, within, slotD, gGtX, gLtX, gLeX, gGeX, gEqX, gIsX, gNotX, gMulX, gAddX, runF, DL.pad, sSeq, sIf, SRes.seq, DRes.stm, DRes.andThen, mCmp, mChain, mOptB, Opd.ev, Opd.now, mFz, mOp, mOp1, mOpt, mC, mV, gIx, atI, ixN, gCI, Val.d, sAsg, tgV, tgsV, gDivmod, sRetV, isOw, Tgts.len, Val.cell, sNx, gOr, gOrB, gMulI, gAddI, gSubI, gModI, gDivI, gI, gInt, gNeg, sRet, mAnd, mOr, mNot, mIf, mAndV, mOrV, mNotV, mBV, mToB, mTru, gTru, mTup, mLst, mAll, mCall', mCall, mCallK, slotsOk, mArgs, callF, cellsOf, DL.cellOf, lentOf, backTo', sDrop, mApp', mApp, sPar, mVals, puts, mSl, mPart, gSl, gIsi, isScr, isTy, gLen, reord]
  · rename_i i
    by_cases h1 : lo ≤ i <;> by_cases h2 : i ≤ hi <;> simp [h1, h2]
  · rename_i l
    unfold isScr at ns
    split at ns <;> simp_all
end K10

set_option maxHeartbeats 8000000
/-! K10q: the law's own eyes, its draws. -/
namespace K10
open PySem PySem.Spec PyProof.Rows L2 DL

theorem law_is_link_sem (l : Int) (v : D) (hp : nsc v) : f_law_is_link.sem [.fz (.int l), .fz v] = .ok (.fz (.bool (linkB l v))) [.fz (.int l), .fz v] := by
  obtain ⟨q1, q2, q3, q4⟩ := is_03
  cases v with
  | tuple xs =>
    have pl : ∀ x ∈ xs, isScr x = false := hp
    match xs, pl with
    | [], _ => simp [f_law_is_link, m_law_is_link, linkB, q2, gEqN, slotD, gGtX, gLtX, gLeX, gGeX, gEqX, gIsX, gNotX, gMulX, gAddX, runF, DL.pad, sSeq, sIf, SRes.seq, DRes.stm, DRes.andThen, mCmp, mChain, mOptB, Opd.ev, Opd.now, mFz, mOp, mOp1, mOpt, mC, mV, gIx, atI, ixN, gCI, Val.d, sAsg, tgV, tgsV, gDivmod, sRetV, isOw, Tgts.len, Val.cell, sNx, gOr, gOrB, gMulI, gAddI, gSubI, gModI, gDivI, gI, gInt, gNeg, sRet, mAnd, mOr, mNot, mIf, mAndV, mOrV, mNotV, mBV, mToB, mTru, gTru, mTup, mLst, mAll, mCall', mCall, mCallK, slotsOk, mArgs, callF, cellsOf, DL.cellOf, lentOf, backTo', sDrop, mApp', mApp, sPar, mVals, puts, mSl, mPart, gSl, gIsi, isScr, isTy, gLen, reord]
    | [u, w, g], pl =>
      have hu := num_sem u 0 (l - 1) (pl u (by simp))
      have hw := num_sem w 0 (l - 1) (pl w (by simp))
      have hg := num_sem g (-9999) 9999 (pl g (by simp))
      cases eu : within u 0 (l - 1) with
      | false => simp [f_law_is_link, m_law_is_link, linkB, q1, gEqN, hu, eu, slotD, gGtX, gLtX, gLeX, gGeX, gEqX, gIsX, gNotX, gMulX, gAddX, runF, DL.pad, sSeq, sIf, SRes.seq, DRes.stm, DRes.andThen, mCmp, mChain, mOptB, Opd.ev, Opd.now, mFz, mOp, mOp1, mOpt, mC, mV, gIx, atI, ixN, gCI, Val.d, sAsg, tgV, tgsV, gDivmod, sRetV, isOw, Tgts.len, Val.cell, sNx, gOr, gOrB, gMulI, gAddI, gSubI, gModI, gDivI, gI, gInt, gNeg, sRet, mAnd, mOr, mNot, mIf, mAndV, mOrV, mNotV, mBV, mToB, mTru, gTru, mTup, mLst, mAll, mCall', mCall, mCallK, slotsOk, mArgs, callF, cellsOf, DL.cellOf, lentOf, backTo', sDrop, mApp', mApp, sPar, mVals, puts, mSl, mPart, gSl, gIsi, isScr, isTy, gLen, reord]
      | true =>
        cases ew : within w 0 (l - 1) with
        | false => simp [f_law_is_link, m_law_is_link, linkB, q1, gEqN, hu, eu, hw, ew, slotD, gGtX, gLtX, gLeX, gGeX, gEqX, gIsX, gNotX, gMulX, gAddX, runF, DL.pad, sSeq, sIf, SRes.seq, DRes.stm, DRes.andThen, mCmp, mChain, mOptB, Opd.ev, Opd.now, mFz, mOp, mOp1, mOpt, mC, mV, gIx, atI, ixN, gCI, Val.d, sAsg, tgV, tgsV, gDivmod, sRetV, isOw, Tgts.len, Val.cell, sNx, gOr, gOrB, gMulI, gAddI, gSubI, gModI, gDivI, gI, gInt, gNeg, sRet, mAnd, mOr, mNot, mIf, mAndV, mOrV, mNotV, mBV, mToB, mTru, gTru, mTup, mLst, mAll, mCall', mCall, mCallK, slotsOk, mArgs, callF, cellsOf, DL.cellOf, lentOf, backTo', sDrop, mApp', mApp, sPar, mVals, puts, mSl, mPart, gSl, gIsi, isScr, isTy, gLen, reord]
        | true =>
          obtain ⟨i, rfl, _⟩ := within_int eu
          obtain ⟨j, rfl, _⟩ := within_int ew
          have pe : gNeP (.int i) (.int j) = some (!(i == j)) := by simp [gNeP, gEqP, PyData.plain, shal, PyData.depth, PyData.eqv]
          by_cases hij : i = j
          · subst hij
            simp [f_law_is_link, m_law_is_link, linkB, q1, gEqN, hu, eu, hw, ew, pe, PyData.eqv, slotD, gGtX, gLtX, gLeX, gGeX, gEqX, gIsX, gNotX, gMulX, gAddX, runF, DL.pad, sSeq, sIf, SRes.seq, DRes.stm, DRes.andThen, mCmp, mChain, mOptB, Opd.ev, Opd.now, mFz, mOp, mOp1, mOpt, mC, mV, gIx, atI, ixN, gCI, Val.d, sAsg, tgV, tgsV, gDivmod, sRetV, isOw, Tgts.len, Val.cell, sNx, gOr, gOrB, gMulI, gAddI, gSubI, gModI, gDivI, gI, gInt, gNeg, sRet, mAnd, mOr, mNot, mIf, mAndV, mOrV, mNotV, mBV, mToB, mTru, gTru, mTup, mLst, mAll, mCall', mCall, mCallK, slotsOk, mArgs, callF, cellsOf, DL.cellOf, lentOf, backTo', sDrop, mApp', mApp, sPar, mVals, puts, mSl, mPart, gSl, gIsi, isScr, isTy, gLen, reord]
          · simp [f_law_is_link, m_law_is_link, linkB, q1, gEqN, hu, eu, hw, ew, pe, hij, hg, PyData.eqv, slotD, gGtX, gLtX, gLeX, gGeX, gEqX, gIsX, gNotX, gMulX, gAddX, runF, DL.pad, sSeq, sIf, SRes.seq, DRes.stm, DRes.andThen, mCmp, mChain, mOptB, Opd.ev, Opd.now, mFz, mOp, mOp1, mOpt, mC, mV, gIx, atI, ixN, gCI, Val.d, sAsg, tgV, tgsV, gDivmod, sRetV, isOw, Tgts.len, Val.cell, sNx, gOr, gOrB, gMulI, gAddI, gSubI, gModI, gDivI, gI, gInt, gNeg, sRet, mAnd, mOr, mNot, mIf, mAndV, mOrV, mNotV, mBV, mToB, mTru, gTru, mTup, mLst, mAll, mCall', mCall, mCallK, slotsOk, mArgs, callF, cellsOf, DL.cellOf, lentOf, backTo', sDrop, mApp', mApp, sPar, mVals, puts, mSl, mPart, gSl, gIsi, isScr, isTy, gLen, reord]
    | [a], _ =>
      have z : gNotIn (.int 1) (.tuple [.int 0, .int 3]) = some true := not_three (n := 1) (by decide) (by decide)
      simp [f_law_is_link, m_law_is_link, linkB, z, slotD, gGtX, gLtX, gLeX, gGeX, gEqX, gIsX, gNotX, gMulX, gAddX, runF, DL.pad, sSeq, sIf, SRes.seq, DRes.stm, DRes.andThen, mCmp, mChain, mOptB, Opd.ev, Opd.now, mFz, mOp, mOp1, mOpt, mC, mV, gIx, atI, ixN, gCI, Val.d, sAsg, tgV, tgsV, gDivmod, sRetV, isOw, Tgts.len, Val.cell, sNx, gOr, gOrB, gMulI, gAddI, gSubI, gModI, gDivI, gI, gInt, gNeg, sRet, mAnd, mOr, mNot, mIf, mAndV, mOrV, mNotV, mBV, mToB, mTru, gTru, mTup, mLst, mAll, mCall', mCall, mCallK, slotsOk, mArgs, callF, cellsOf, DL.cellOf, lentOf, backTo', sDrop, mApp', mApp, sPar, mVals, puts, mSl, mPart, gSl, gIsi, isScr, isTy, gLen, reord]
    | [a, b], _ =>
      have z : gNotIn (.int 2) (.tuple [.int 0, .int 3]) = some true := not_three (n := 2) (by decide) (by decide)
      simp [f_law_is_link, m_law_is_link, linkB, z, slotD, gGtX, gLtX, gLeX, gGeX, gEqX, gIsX, gNotX, gMulX, gAddX, runF, DL.pad, sSeq, sIf, SRes.seq, DRes.stm, DRes.andThen, mCmp, mChain, mOptB, Opd.ev, Opd.now, mFz, mOp, mOp1, mOpt, mC, mV, gIx, atI, ixN, gCI, Val.d, sAsg, tgV, tgsV, gDivmod, sRetV, isOw, Tgts.len, Val.cell, sNx, gOr, gOrB, gMulI, gAddI, gSubI, gModI, gDivI, gI, gInt, gNeg, sRet, mAnd, mOr, mNot, mIf, mAndV, mOrV, mNotV, mBV, mToB, mTru, gTru, mTup, mLst, mAll, mCall', mCall, mCallK, slotsOk, mArgs, callF, cellsOf, DL.cellOf, lentOf, backTo', sDrop, mApp', mApp, sPar, mVals, puts, mSl, mPart, gSl, gIsi, isScr, isTy, gLen, reord]
    | a :: b :: d :: e :: r, _ =>
      have z : gNotIn (.int ((r.length : Int) + 1 + 1 + 1 + 1)) (.tuple [.int 0, .int 3]) = some true := not_three (n := r.length + 4) (by omega) (by omega)
      simp [f_law_is_link, m_law_is_link, linkB, z, slotD, gGtX, gLtX, gLeX, gGeX, gEqX, gIsX, gNotX, gMulX, gAddX, runF, DL.pad, sSeq, sIf, SRes.seq, DRes.stm, DRes.andThen, mCmp, mChain, mOptB, Opd.ev, Opd.now, mFz, mOp, mOp1, mOpt, mC, mV, gIx, atI, ixN, gCI, Val.d, sAsg, tgV, tgsV, gDivmod, sRetV, isOw, Tgts.len, Val.cell, sNx, gOr, gOrB, gMulI, gAddI, gSubI, gModI, gDivI, gI, gInt, gNeg, sRet, mAnd, mOr, mNot, mIf, mAndV, mOrV, mNotV, mBV, mToB, mTru, gTru, mTup, mLst, mAll, mCall', mCall, mCallK, slotsOk, mArgs, callF, cellsOf, DL.cellOf, lentOf, backTo', sDrop, mApp', mApp, sPar, mVals, puts, mSl, mPart, gSl, gIsi, isScr, isTy, gLen, reord]
  | dict l =>
    have ps : isScr (.dict l) = false := hp
    simp [f_law_is_link, m_law_is_link, linkB, ps, slotD, gGtX, gLtX, gLeX, gGeX, gEqX, gIsX, gNotX, gMulX, gAddX, runF, DL.pad, sSeq, sIf, SRes.seq, DRes.stm, DRes.andThen, mCmp, mChain, mOptB, Opd.ev, Opd.now, mFz, mOp, mOp1, mOpt, mC, mV, gIx, atI, ixN, gCI, Val.d, sAsg, tgV, tgsV, gDivmod, sRetV, isOw, Tgts.len, Val.cell, sNx, gOr, gOrB, gMulI, gAddI, gSubI, gModI, gDivI, gI, gInt, gNeg, sRet, mAnd, mOr, mNot, mIf, mAndV, mOrV, mNotV, mBV, mToB, mTru, gTru, mTup, mLst, mAll, mCall', mCall, mCallK, slotsOk, mArgs, callF, cellsOf, DL.cellOf, lentOf, backTo', sDrop, mApp', mApp, sPar, mVals, puts, mSl, mPart, gSl, gIsi, isTy, gLen, reord]
  | _ => simp [f_law_is_link, m_law_is_link, linkB, slotD, gGtX, gLtX, gLeX, gGeX, gEqX, gIsX, gNotX, gMulX, gAddX, runF, DL.pad, sSeq, sIf, SRes.seq, DRes.stm, DRes.andThen, mCmp, mChain, mOptB, Opd.ev, Opd.now, mFz, mOp, mOp1, mOpt, mC, mV, gIx, atI, ixN, gCI, Val.d, sAsg, tgV, tgsV, gDivmod, sRetV, isOw, Tgts.len, Val.cell, sNx, gOr, gOrB, gMulI, gAddI, gSubI, gModI, gDivI, gI, gInt, gNeg, sRet, mAnd, mOr, mNot, mIf, mAndV, mOrV, mNotV, mBV, mToB, mTru, gTru, mTup, mLst, mAll, mCall', mCall, mCallK, slotsOk, mArgs, callF, cellsOf, DL.cellOf, lentOf, backTo', sDrop, mApp', mApp, sPar, mVals, puts, mSl, mPart, gSl, gIsi, isScr, isTy, gLen, reord]
theorem law_is_find_sem (l : Int) (v : D) (hp : nsc v) : f_law_is_find.sem [.fz (.int l), .fz v] = .ok (.fz (.bool (findB l v))) [.fz (.int l), .fz v] := by
  obtain ⟨q1, q2, q3, q4⟩ := is_03
  cases v with
  | tuple xs =>
    have pl : ∀ x ∈ xs, isScr x = false := hp
    match xs, pl with
    | [], _ => simp [f_law_is_find, m_law_is_find, findB, q4, gEqN, slotD, gGtX, gLtX, gLeX, gGeX, gEqX, gIsX, gNotX, gMulX, gAddX, runF, DL.pad, sSeq, sIf, SRes.seq, DRes.stm, DRes.andThen, mCmp, mChain, mOptB, Opd.ev, Opd.now, mFz, mOp, mOp1, mOpt, mC, mV, gIx, atI, ixN, gCI, Val.d, sAsg, tgV, tgsV, gDivmod, sRetV, isOw, Tgts.len, Val.cell, sNx, gOr, gOrB, gMulI, gAddI, gSubI, gModI, gDivI, gI, gInt, gNeg, sRet, mAnd, mOr, mNot, mIf, mAndV, mOrV, mNotV, mBV, mToB, mTru, gTru, mTup, mLst, mAll, mCall', mCall, mCallK, slotsOk, mArgs, callF, cellsOf, DL.cellOf, lentOf, backTo', sDrop, mApp', mApp, sPar, mVals, puts, mSl, mPart, gSl, gIsi, isScr, isTy, gLen, reord]
    | [s, a, y, t], pl =>
      have pa := num_sem a 0 (l - 1) (pl a (by simp))
      have py := num_sem y (-99999) 99999 (pl y (by simp))
      have pt := num_sem t 1 9999 (pl t (by simp))
      cases s with
      | str x =>
        have z : gNotIn (.str x) (.tuple [.str "after", .str "before"]) = some (!(x == "after" || x == "before")) := by
          simp [gNotIn, gIn, PyData.plain, PyData.plainAll, shal, PyData.depth, PyData.eqv, Bool.beq_comm (a := x)]
        cases hx : (x == "after" || x == "before") with
        | false => simp [f_law_is_find, m_law_is_find, findB, q3, gEqN, z, hx, slotD, gGtX, gLtX, gLeX, gGeX, gEqX, gIsX, gNotX, gMulX, gAddX, runF, DL.pad, sSeq, sIf, SRes.seq, DRes.stm, DRes.andThen, mCmp, mChain, mOptB, Opd.ev, Opd.now, mFz, mOp, mOp1, mOpt, mC, mV, gIx, atI, ixN, gCI, Val.d, sAsg, tgV, tgsV, gDivmod, sRetV, isOw, Tgts.len, Val.cell, sNx, gOr, gOrB, gMulI, gAddI, gSubI, gModI, gDivI, gI, gInt, gNeg, sRet, mAnd, mOr, mNot, mIf, mAndV, mOrV, mNotV, mBV, mToB, mTru, gTru, mTup, mLst, mAll, mCall', mCall, mCallK, slotsOk, mArgs, callF, cellsOf, DL.cellOf, lentOf, backTo', sDrop, mApp', mApp, sPar, mVals, puts, mSl, mPart, gSl, gIsi, isScr, isTy, gLen, reord]
        | true =>
          cases ha : within a 0 (l - 1) <;> cases hy : within y (-99999) 99999 <;> simp [f_law_is_find, m_law_is_find, findB, q3, gEqN, z, hx, pa, py, pt, ha, hy, slotD, gGtX, gLtX, gLeX, gGeX, gEqX, gIsX, gNotX, gMulX, gAddX, runF, DL.pad, sSeq, sIf, SRes.seq, DRes.stm, DRes.andThen, mCmp, mChain, mOptB, Opd.ev, Opd.now, mFz, mOp, mOp1, mOpt, mC, mV, gIx, atI, ixN, gCI, Val.d, sAsg, tgV, tgsV, gDivmod, sRetV, isOw, Tgts.len, Val.cell, sNx, gOr, gOrB, gMulI, gAddI, gSubI, gModI, gDivI, gI, gInt, gNeg, sRet, mAnd, mOr, mNot, mIf, mAndV, mOrV, mNotV, mBV, mToB, mTru, gTru, mTup, mLst, mAll, mCall', mCall, mCallK, slotsOk, mArgs, callF, cellsOf, DL.cellOf, lentOf, backTo', sDrop, mApp', mApp, sPar, mVals, puts, mSl, mPart, gSl, gIsi, isScr, isTy, gLen, reord]
      | dict k =>
        have ps := pl (.dict k) (by simp)
        have pt2 : ∀ xs, isScr (.tuple xs) = false := fun _ => rfl
        simp [f_law_is_find, m_law_is_find, findB, q3, gEqN, ps, pt2, slotD, gGtX, gLtX, gLeX, gGeX, gEqX, gIsX, gNotX, gMulX, gAddX, runF, DL.pad, sSeq, sIf, SRes.seq, DRes.stm, DRes.andThen, mCmp, mChain, mOptB, Opd.ev, Opd.now, mFz, mOp, mOp1, mOpt, mC, mV, gIx, atI, ixN, gCI, Val.d, sAsg, tgV, tgsV, gDivmod, sRetV, isOw, Tgts.len, Val.cell, sNx, gOr, gOrB, gMulI, gAddI, gSubI, gModI, gDivI, gI, gInt, gNeg, sRet, mAnd, mOr, mNot, mIf, mAndV, mOrV, mNotV, mBV, mToB, mTru, gTru, mTup, mLst, mAll, mCall', mCall, mCallK, slotsOk, mArgs, callF, cellsOf, DL.cellOf, lentOf, backTo', sDrop, mApp', mApp, sPar, mVals, puts, mSl, mPart, gSl, gIsi, isTy, gLen, reord]
      | _ => simp [f_law_is_find, m_law_is_find, findB, q3, gEqN, slotD, gGtX, gLtX, gLeX, gGeX, gEqX, gIsX, gNotX, gMulX, gAddX, runF, DL.pad, sSeq, sIf, SRes.seq, DRes.stm, DRes.andThen, mCmp, mChain, mOptB, Opd.ev, Opd.now, mFz, mOp, mOp1, mOpt, mC, mV, gIx, atI, ixN, gCI, Val.d, sAsg, tgV, tgsV, gDivmod, sRetV, isOw, Tgts.len, Val.cell, sNx, gOr, gOrB, gMulI, gAddI, gSubI, gModI, gDivI, gI, gInt, gNeg, sRet, mAnd, mOr, mNot, mIf, mAndV, mOrV, mNotV, mBV, mToB, mTru, gTru, mTup, mLst, mAll, mCall', mCall, mCallK, slotsOk, mArgs, callF, cellsOf, DL.cellOf, lentOf, backTo', sDrop, mApp', mApp, sPar, mVals, puts, mSl, mPart, gSl, gIsi, isScr, isTy, gLen, reord]
    | [a], _ =>
      have z : gNotIn (.int 1) (.tuple [.int 0, .int 4]) = some true := not_four (n := 1) (by decide) (by decide)
      simp [f_law_is_find, m_law_is_find, findB, z, slotD, gGtX, gLtX, gLeX, gGeX, gEqX, gIsX, gNotX, gMulX, gAddX, runF, DL.pad, sSeq, sIf, SRes.seq, DRes.stm, DRes.andThen, mCmp, mChain, mOptB, Opd.ev, Opd.now, mFz, mOp, mOp1, mOpt, mC, mV, gIx, atI, ixN, gCI, Val.d, sAsg, tgV, tgsV, gDivmod, sRetV, isOw, Tgts.len, Val.cell, sNx, gOr, gOrB, gMulI, gAddI, gSubI, gModI, gDivI, gI, gInt, gNeg, sRet, mAnd, mOr, mNot, mIf, mAndV, mOrV, mNotV, mBV, mToB, mTru, gTru, mTup, mLst, mAll, mCall', mCall, mCallK, slotsOk, mArgs, callF, cellsOf, DL.cellOf, lentOf, backTo', sDrop, mApp', mApp, sPar, mVals, puts, mSl, mPart, gSl, gIsi, isScr, isTy, gLen, reord]
    | [a, b], _ =>
      have z : gNotIn (.int 2) (.tuple [.int 0, .int 4]) = some true := not_four (n := 2) (by decide) (by decide)
      simp [f_law_is_find, m_law_is_find, findB, z, slotD, gGtX, gLtX, gLeX, gGeX, gEqX, gIsX, gNotX, gMulX, gAddX, runF, DL.pad, sSeq, sIf, SRes.seq, DRes.stm, DRes.andThen, mCmp, mChain, mOptB, Opd.ev, Opd.now, mFz, mOp, mOp1, mOpt, mC, mV, gIx, atI, ixN, gCI, Val.d, sAsg, tgV, tgsV, gDivmod, sRetV, isOw, Tgts.len, Val.cell, sNx, gOr, gOrB, gMulI, gAddI, gSubI, gModI, gDivI, gI, gInt, gNeg, sRet, mAnd, mOr, mNot, mIf, mAndV, mOrV, mNotV, mBV, mToB, mTru, gTru, mTup, mLst, mAll, mCall', mCall, mCallK, slotsOk, mArgs, callF, cellsOf, DL.cellOf, lentOf, backTo', sDrop, mApp', mApp, sPar, mVals, puts, mSl, mPart, gSl, gIsi, isScr, isTy, gLen, reord]
    | [a, b, d], _ =>
      have z : gNotIn (.int 3) (.tuple [.int 0, .int 4]) = some true := not_four (n := 3) (by decide) (by decide)
      simp [f_law_is_find, m_law_is_find, findB, z, slotD, gGtX, gLtX, gLeX, gGeX, gEqX, gIsX, gNotX, gMulX, gAddX, runF, DL.pad, sSeq, sIf, SRes.seq, DRes.stm, DRes.andThen, mCmp, mChain, mOptB, Opd.ev, Opd.now, mFz, mOp, mOp1, mOpt, mC, mV, gIx, atI, ixN, gCI, Val.d, sAsg, tgV, tgsV, gDivmod, sRetV, isOw, Tgts.len, Val.cell, sNx, gOr, gOrB, gMulI, gAddI, gSubI, gModI, gDivI, gI, gInt, gNeg, sRet, mAnd, mOr, mNot, mIf, mAndV, mOrV, mNotV, mBV, mToB, mTru, gTru, mTup, mLst, mAll, mCall', mCall, mCallK, slotsOk, mArgs, callF, cellsOf, DL.cellOf, lentOf, backTo', sDrop, mApp', mApp, sPar, mVals, puts, mSl, mPart, gSl, gIsi, isScr, isTy, gLen, reord]
    | a :: b :: d :: e :: f :: r, _ =>
      have z : gNotIn (.int ((r.length : Int) + 1 + 1 + 1 + 1 + 1)) (.tuple [.int 0, .int 4]) = some true := not_four (n := r.length + 5) (by omega) (by omega)
      simp [f_law_is_find, m_law_is_find, findB, z, slotD, gGtX, gLtX, gLeX, gGeX, gEqX, gIsX, gNotX, gMulX, gAddX, runF, DL.pad, sSeq, sIf, SRes.seq, DRes.stm, DRes.andThen, mCmp, mChain, mOptB, Opd.ev, Opd.now, mFz, mOp, mOp1, mOpt, mC, mV, gIx, atI, ixN, gCI, Val.d, sAsg, tgV, tgsV, gDivmod, sRetV, isOw, Tgts.len, Val.cell, sNx, gOr, gOrB, gMulI, gAddI, gSubI, gModI, gDivI, gI, gInt, gNeg, sRet, mAnd, mOr, mNot, mIf, mAndV, mOrV, mNotV, mBV, mToB, mTru, gTru, mTup, mLst, mAll, mCall', mCall, mCallK, slotsOk, mArgs, callF, cellsOf, DL.cellOf, lentOf, backTo', sDrop, mApp', mApp, sPar, mVals, puts, mSl, mPart, gSl, gIsi, isScr, isTy, gLen, reord]
  | dict l =>
    have ps : isScr (.dict l) = false := hp
    simp [f_law_is_find, m_law_is_find, findB, ps, slotD, gGtX, gLtX, gLeX, gGeX, gEqX, gIsX, gNotX, gMulX, gAddX, runF, DL.pad, sSeq, sIf, SRes.seq, DRes.stm, DRes.andThen, mCmp, mChain, mOptB, Opd.ev, Opd.now, mFz, mOp, mOp1, mOpt, mC, mV, gIx, atI, ixN, gCI, Val.d, sAsg, tgV, tgsV, gDivmod, sRetV, isOw, Tgts.len, Val.cell, sNx, gOr, gOrB, gMulI, gAddI, gSubI, gModI, gDivI, gI, gInt, gNeg, sRet, mAnd, mOr, mNot, mIf, mAndV, mOrV, mNotV, mBV, mToB, mTru, gTru, mTup, mLst, mAll, mCall', mCall, mCallK, slotsOk, mArgs, callF, cellsOf, DL.cellOf, lentOf, backTo', sDrop, mApp', mApp, sPar, mVals, puts, mSl, mPart, gSl, gIsi, isTy, gLen, reord]
  | _ => simp [f_law_is_find, m_law_is_find, findB, slotD, gGtX, gLtX, gLeX, gGeX, gEqX, gIsX, gNotX, gMulX, gAddX, runF, DL.pad, sSeq, sIf, SRes.seq, DRes.stm, DRes.andThen, mCmp, mChain, mOptB, Opd.ev, Opd.now, mFz, mOp, mOp1, mOpt, mC, mV, gIx, atI, ixN, gCI, Val.d, sAsg, tgV, tgsV, gDivmod, sRetV, isOw, Tgts.len, Val.cell, sNx, gOr, gOrB, gMulI, gAddI, gSubI, gModI, gDivI, gI, gInt, gNeg, sRet, mAnd, mOr, mNot, mIf, mAndV, mOrV, mNotV, mBV, mToB, mTru, gTru, mTup, mLst, mAll, mCall', mCall, mCallK, slotsOk, mArgs, callF, cellsOf, DL.cellOf, lentOf, backTo', sDrop, mApp', mApp, sPar, mVals, puts, mSl, mPart, gSl, gIsi, isScr, isTy, gLen, reord]
/-! ### from outside -/
theorem want_ok (l : Int) (h : 1 ≤ l ∧ l ≤ 40) : f_want_layers.sem [.fz (.int l)] = .ok (.fz .none) [.fz (.int l)] := by
  have z := is_within_sem (.int l) 1 40 rfl
  have w : within (.int l) 1 40 = true := decide_eq_true h
  simp [f_want_layers, m_want_layers, z, w, slotD, gGtX, gLtX, gLeX, gGeX, gEqX, gIsX, gNotX, gMulX, gAddX, x_run, DL.pad, x_fz, x_ex, x_nm, Opd.now, x_op, x_op1, x_cmp, x_if, x_and, x_or, x_not, x_andV, x_orV, x_bv, x_notV, x_tru, x_all0, x_all, x_tup, x_lst, x_tob, x_c, x_v, x_part0, x_part, x_sl, x_args0, x_argsS, x_argsE, x_argsO, x_call, x_callF, x_callK, x_app, x_vals0, x_vals, s_seq, s_if, s_ret, s_retV, s_nx, s_drop, s_asg, s_par, s_for, x_seqIt, x_rng, t_nm, t_sub, t_tup, t_nil, t_cons, puts, isOw, slotsOk, cellsOf, DL.cellOf, lentOf, backTo', gCI, Val.d, Val.cell, gDivmod, Tgts.len, gOr, gOrB, gMulI, gAddI, gSubI, gModI, gDivI, gI, gInt, gNeg, gTru, gSl, gIsi, isScr, isTy, reord]
theorem want_bad (v : D) (ns : isScr v = false) (h : within v 1 40 = false) : f_want_layers.sem [.fz v] = .exc ⟨"InvalidLayers", [("value", v)]⟩ [.fz v] := by
  have z := is_within_sem v 1 40 ns
  simp [f_want_layers, m_want_layers, sRaise, DRes.stm, z, h, slotD, gGtX, gLtX, gLeX, gGeX, gEqX, gIsX, gNotX, gMulX, gAddX, x_run, DL.pad, x_fz, x_ex, x_nm, Opd.now, x_op, x_op1, x_cmp, x_if, x_and, x_or, x_not, x_andV, x_orV, x_bv, x_notV, x_tru, x_all0, x_all, x_tup, x_lst, x_tob, x_c, x_v, x_part0, x_part, x_sl, x_args0, x_argsS, x_argsE, x_argsO, x_call, x_callF, x_callK, x_app, x_vals0, x_vals, s_seq, s_if, s_ret, s_retV, s_nx, s_drop, s_asg, s_par, s_for, x_seqIt, x_rng, t_nm, t_sub, t_tup, t_nil, t_cons, puts, isOw, slotsOk, cellsOf, DL.cellOf, lentOf, backTo', gCI, Val.d, Val.cell, gDivmod, Tgts.len, gOr, gOrB, gMulI, gAddI, gSubI, gModI, gDivI, gI, gInt, gNeg, gTru, gSl, gIsi, isScr, isTy, reord]
theorem link_full (l : Int) (v : D) (h : 1 ≤ l ∧ l ≤ 40) (hp : nsc v) : f_is_link.sem [.fz (.int l), .fz v] = .ok (.fz (.bool (linkB l v))) [.fz (.int l), .fz v] := by
  have z := want_ok l h
  have z2 := is_link_sem l v hp
  simp [f_is_link, m_is_link, z, z2, slotD, gGtX, gLtX, gLeX, gGeX, gEqX, gIsX, gNotX, gMulX, gAddX, x_run, DL.pad, x_fz, x_ex, x_nm, Opd.now, x_op, x_op1, x_cmp, x_if, x_and, x_or, x_not, x_andV, x_orV, x_bv, x_notV, x_tru, x_all0, x_all, x_tup, x_lst, x_tob, x_c, x_v, x_part0, x_part, x_sl, x_args0, x_argsS, x_argsE, x_argsO, x_call, x_callF, x_callK, x_app, x_vals0, x_vals, s_seq, s_if, s_ret, s_retV, s_nx, s_drop, s_asg, s_par, s_for, x_seqIt, x_rng, t_nm, t_sub, t_tup, t_nil, t_cons, puts, isOw, slotsOk, cellsOf, DL.cellOf, lentOf, backTo', gCI, Val.d, Val.cell, gDivmod, Tgts.len, gOr, gOrB, gMulI, gAddI, gSubI, gModI, gDivI, gI, gInt, gNeg, gTru, gSl, gIsi, isScr, isTy, reord]
theorem find_full (l : Int) (v : D) (h : 1 ≤ l ∧ l ≤ 40) (hp : nsc v) : f_is_find.sem [.fz (.int l), .fz v] = .ok (.fz (.bool (findB l v))) [.fz (.int l), .fz v] := by
  have z := want_ok l h
  have z2 := is_find_sem l v hp
  simp [f_is_find, m_is_find, z, z2, slotD, gGtX, gLtX, gLeX, gGeX, gEqX, gIsX, gNotX, gMulX, gAddX, x_run, DL.pad, x_fz, x_ex, x_nm, Opd.now, x_op, x_op1, x_cmp, x_if, x_and, x_or, x_not, x_andV, x_orV, x_bv, x_notV, x_tru, x_all0, x_all, x_tup, x_lst, x_tob, x_c, x_v, x_part0, x_part, x_sl, x_args0, x_argsS, x_argsE, x_argsO, x_call, x_callF, x_callK, x_app, x_vals0, x_vals, s_seq, s_if, s_ret, s_retV, s_nx, s_drop, s_asg, s_par, s_for, x_seqIt, x_rng, t_nm, t_sub, t_tup, t_nil, t_cons, puts, isOw, slotsOk, cellsOf, DL.cellOf, lentOf, backTo', gCI, Val.d, Val.cell, gDivmod, Tgts.len, gOr, gOrB, gMulI, gAddI, gSubI, gModI, gDivI, gI, gInt, gNeg, gTru, gSl, gIsi, isScr, isTy, reord]
theorem link_bad (v w : D) (ns : isScr v = false) (h : within v 1 40 = false) : f_is_link.sem [.fz v, .fz w] = .exc ⟨"InvalidLayers", [("value", v)]⟩ [.fz v, .fz w] := by
  have z := want_bad v ns h
  simp [f_is_link, m_is_link, z, slotD, gGtX, gLtX, gLeX, gGeX, gEqX, gIsX, gNotX, gMulX, gAddX, x_run, DL.pad, x_fz, x_ex, x_nm, Opd.now, x_op, x_op1, x_cmp, x_if, x_and, x_or, x_not, x_andV, x_orV, x_bv, x_notV, x_tru, x_all0, x_all, x_tup, x_lst, x_tob, x_c, x_v, x_part0, x_part, x_sl, x_args0, x_argsS, x_argsE, x_argsO, x_call, x_callF, x_callK, x_app, x_vals0, x_vals, s_seq, s_if, s_ret, s_retV, s_nx, s_drop, s_asg, s_par, s_for, x_seqIt, x_rng, t_nm, t_sub, t_tup, t_nil, t_cons, puts, isOw, slotsOk, cellsOf, DL.cellOf, lentOf, backTo', gCI, Val.d, Val.cell, gDivmod, Tgts.len, gOr, gOrB, gMulI, gAddI, gSubI, gModI, gDivI, gI, gInt, gNeg, gTru, gSl, gIsi, isScr, isTy, reord]
theorem find_bad (v w : D) (ns : isScr v = false) (h : within v 1 40 = false) : f_is_find.sem [.fz v, .fz w] = .exc ⟨"InvalidLayers", [("value", v)]⟩ [.fz v, .fz w] := by
  have z := want_bad v ns h
  simp [f_is_find, m_is_find, z, slotD, gGtX, gLtX, gLeX, gGeX, gEqX, gIsX, gNotX, gMulX, gAddX, x_run, DL.pad, x_fz, x_ex, x_nm, Opd.now, x_op, x_op1, x_cmp, x_if, x_and, x_or, x_not, x_andV, x_orV, x_bv, x_notV, x_tru, x_all0, x_all, x_tup, x_lst, x_tob, x_c, x_v, x_part0, x_part, x_sl, x_args0, x_argsS, x_argsE, x_argsO, x_call, x_callF, x_callK, x_app, x_vals0, x_vals, s_seq, s_if, s_ret, s_retV, s_nx, s_drop, s_asg, s_par, s_for, x_seqIt, x_rng, t_nm, t_sub, t_tup, t_nil, t_cons, puts, isOw, slotsOk, cellsOf, DL.cellOf, lentOf, backTo', gCI, Val.d, Val.cell, gDivmod, Tgts.len, gOr, gOrB, gMulI, gAddI, gSubI, gModI, gDivI, gI, gInt, gNeg, gTru, gSl, gIsi, isScr, isTy, reord]

/-! ### draws -/
theorem draw_ok (a b n : Int) (h1 : 1 ≤ n) (h2 : n < 1073741824) : ∃ a' b' i, f_law_draw.sem [.ow [.int a, .int b], .fz (.int n)] = .ok (.fz (.int i)) [.ow [.int a', .int b'], .fz (.int n)] ∧ 0 ≤ i ∧ i < n := by
  obtain ⟨d1, d2⟩ := dig_bd a b h1
  exact ⟨_, _, _, draw_sem a b n h1 h2, d1, d2⟩
theorem pick_ok (a b : Int) (xs : List D) (h : xs ≠ []) (h2 : xs.length ≤ 1000) : ∃ a' b' d, f_law_pick.sem [.ow [.int a, .int b], .fz (.list xs)] = .ok (.fz d) [.ow [.int a', .int b'], .fz (.list xs)] ∧ d ∈ xs := by
  have hl : 1 ≤ (xs.length : Int) := by
    have := List.length_pos_iff.mpr h
    omega
  obtain ⟨a', b', i, z, d1, d2⟩ := draw_ok a b xs.length hl (by omega)
  have hlt : i.toNat < xs.length := by omega
  refine ⟨a', b', xs[i.toNat], ?_, List.getElem_mem hlt⟩
  have e : xs[i.toNat]? = some xs[i.toNat] := List.getElem?_eq_getElem hlt
  simp [f_law_pick, m_law_pick, z, d1, d2, e, slotD, gGtX, gLtX, gLeX, gGeX, gEqX, gIsX, gNotX, gMulX, gAddX, runF, DL.pad, sSeq, sIf, SRes.seq, DRes.stm, DRes.andThen, mCmp, mChain, mOptB, Opd.ev, Opd.now, mFz, mOp, mOp1, mOpt, mC, mV, gIx, atI, ixN, gCI, Val.d, sAsg, tgV, tgsV, gDivmod, sRetV, isOw, Tgts.len, Val.cell, sNx, gOr, gOrB, gMulI, gAddI, gSubI, gModI, gDivI, gI, gInt, gNeg, sRet, mAnd, mOr, mNot, mIf, mAndV, mOrV, mNotV, mBV, mToB, mTru, gTru, mTup, mLst, mAll, mCall', mCall, mCallK, slotsOk, mArgs, callF, cellsOf, DL.cellOf, lentOf, backTo', sDrop, mApp', mApp, sPar, mVals, puts, mSl, mPart, gSl, gIsi, isScr, isTy, gLen, reord]
theorem near_ok (a b : Int) : ∃ a' b' i, f_law_near.sem [.ow [.int a, .int b]] = .ok (.fz (.int i)) [.ow [.int a', .int b']] ∧ -200000 ≤ i ∧ i ≤ 200000 := by
  obtain ⟨a1, b1, d1, z1, m1⟩ := pick_ok a b [.int 0, .int 1, .int 39, .int 40, .int 9999, .int 10000, .int 99999, .int 100000] (by simp) (by simp)
  obtain ⟨a2, b2, d2, z2, m2⟩ := pick_ok a1 b1 [.int 1, .int (-1)] (by simp) (by simp)
  obtain ⟨a3, b3, i, z3, i1, i2⟩ := draw_ok a2 b2 3 (by decide) (by decide)
  obtain ⟨n, rfl, n1, n2⟩ : ∃ n : Int, d1 = .int n ∧ 0 ≤ n ∧ n ≤ 100000 := by
    simp only [List.mem_cons, List.not_mem_nil, or_false] at m1
    rcases m1 with h | h | h | h | h | h | h | h <;> exact ⟨_, h, by decide, by decide⟩
  obtain ⟨s, rfl, hs⟩ : ∃ s : Int, d2 = .int s ∧ (s = 1 ∨ s = -1) := by
    simp only [List.mem_cons, List.not_mem_nil, or_false] at m2
    rcases m2 with h | h
    · exact ⟨_, h, .inl rfl⟩
    · exact ⟨_, h, .inr rfl⟩
  have k : okMul s (n + i - 1) = true := by
    unfold okMul
    rw [Bool.or_eq_true]
    left
    exact decide_eq_true (by omega)
  refine ⟨a3, b3, s * (n + i - 1), ?_, ?_⟩
  · simp [f_law_near, m_law_near, z1, z2, z3, k, slotD, gGtX, gLtX, gLeX, gGeX, gEqX, gIsX, gNotX, gMulX, gAddX, x_run, DL.pad, x_fz, x_ex, x_nm, Opd.now, x_op, x_op1, x_cmp, x_if, x_and, x_or, x_not, x_andV, x_orV, x_bv, x_notV, x_tru, x_all0, x_all, x_tup, x_lst, x_tob, x_c, x_v, x_part0, x_part, x_sl, x_args0, x_argsS, x_argsE, x_argsO, x_call, x_callF, x_callK, x_app, x_vals0, x_vals, s_seq, s_if, s_ret, s_retV, s_nx, s_drop, s_asg, s_par, s_for, x_seqIt, x_rng, t_nm, t_sub, t_tup, t_nil, t_cons, puts, isOw, slotsOk, cellsOf, DL.cellOf, lentOf, backTo', gCI, Val.d, Val.cell, gDivmod, Tgts.len, gOr, gOrB, gMulI, gAddI, gSubI, gModI, gDivI, gI, gInt, gNeg, gTru, gSl, gIsi, isScr, isTy, reord]
  · rcases hs with rfl | rfl <;> omega
def oddL : List D := [.none, .bool true, .bool false, .str "", .str "0", .tuple [], .list [], .dict [], .tuple [.int 0], .list [.int 0], .str "after", .int (-1), .int 0, .int 1, .int 40, .int 100000000000000000000000000000, .int (-100000000000000000000000000000)]
theorem odd_ok (a b : Int) : ∃ a' b' d, f_law_odd.sem [.ow [.int a, .int b]] = .ok (.fz d) [.ow [.int a', .int b']] ∧ d ∈ oddL := by
  obtain ⟨a1, b1, d1, z1, m1⟩ := pick_ok a b oddL (by simp [oddL]) (by simp [oddL])
  refine ⟨a1, b1, d1, ?_, m1⟩
  unfold oddL at z1
  have k : okPow 10 29 = true := by unfold okPow; exact decide_eq_true ⟨by decide, by decide, by decide⟩
  simp [f_law_odd, m_law_odd, z1, gPowI, k, slotD, gGtX, gLtX, gLeX, gGeX, gEqX, gIsX, gNotX, gMulX, gAddX, x_run, DL.pad, x_fz, x_ex, x_nm, Opd.now, x_op, x_op1, x_cmp, x_if, x_and, x_or, x_not, x_andV, x_orV, x_bv, x_notV, x_tru, x_all0, x_all, x_tup, x_lst, x_tob, x_c, x_v, x_part0, x_part, x_sl, x_args0, x_argsS, x_argsE, x_argsO, x_call, x_callF, x_callK, x_app, x_vals0, x_vals, s_seq, s_if, s_ret, s_retV, s_nx, s_drop, s_asg, s_par, s_for, x_seqIt, x_rng, t_nm, t_sub, t_tup, t_nil, t_cons, puts, isOw, slotsOk, cellsOf, DL.cellOf, lentOf, backTo', gCI, Val.d, Val.cell, gDivmod, Tgts.len, gOr, gOrB, gMulI, gAddI, gSubI, gModI, gDivI, gI, gInt, gNeg, gTru, gSl, gIsi, isScr, isTy, reord]
theorem odd_scr {d : D} (h : d ∈ oddL) : isScr d = false ∧ nsc d := by
  unfold oddL at h
  simp only [List.mem_cons, List.not_mem_nil, or_false] at h
  rcases h with h | h | h | h | h | h | h | h | h | h | h | h | h | h | h | h | h <;> subst h <;> simp [isScr, nsc]
theorem odd_num {d : D} (h : d ∈ oddL) (i : Int) (e : d = .int i) : -(10 ^ 30) ≤ i ∧ i ≤ 10 ^ 30 := by
  subst e
  unfold oddL at h
  simp at h
  rcases h with h | h | h | h | h | h <;> subst h <;> decide
end K10

/-! K10r: a value bent; a turn of the law. -/
namespace K10
open PySem PySem.Spec PyProof.Rows L2 DL

theorem eqn (i j : Int) : gEqN (.int i) (.int j) = none := rfl
theorem eqp (i j : Int) : gEqP (.int i) (.int j) = some (i == j) := by
  simp [gEqP, PyData.plain, shal, PyData.depth, PyData.eqv]
theorem scr_set {ps : List D} {d : D} (h : ∀ x ∈ ps, isScr x = false) (hd : isScr d = false) (i : Nat) : ∀ x ∈ ps.set i d, isScr x = false := fun x hx => by
  rcases List.mem_or_eq_of_mem_set hx with z | z
  · exact h x z
  · rw [z]; exact hd
/-- what is returned behind the bending -/
theorem bent_end (a b : Int) (c2 : Cell) (ps : List D) (hl : ps.length = 3 ∨ ps.length = 4) (hs : ∀ x ∈ ps, isScr x = false) :
    ∃ a' b' r c, (sSeq (sAsg 2 (mCall' f_law_draw.sem [.sl 0, .ex (mFz (mC (.int 12)))]) (.nm 3)) (sSeq (sIf (mCmp gEqX (.nm 3) (.ex (mFz (mC (.int 0))))) (sSeq (sRet (mOp1 gListOf (.nm 1)))
    sNx) sNx)
    (sSeq (sIf (mCmp gEqX (.nm 3) (.ex (mFz (mC (.int 1))))) (sSeq (sRet (mOp1 gTupOf (.ex (mFz (mSl (.nm 1) none (some (mFz (mOp1 gNeg (.ex (mFz (mC (.int 1))))))))))))
    sNx) sNx)
    (sSeq (sRet (mIf (mCmp gEqX (.nm 3) (.ex (mFz (mC (.int 2))))) (mOp1 gTupOf (.ex (mFz (mOp gAddX (.nm 1) (.ex (mFz (mLst (mAll [(mFz (mC (.int 0)))])))))))) (mOp1 gTupOf (.nm 1))))
    sNx)))) [.ow [.int a, .int b], .ow ps, c2, .no] = .rt r [.ow [.int a', .int b'], .ow ps, c2, c] ∧ nsc r.d := by
  obtain ⟨a1, b1, i, z1, i1, i2⟩ := draw_ok a b 12 (by decide) (by decide)
  have ln : ps.length ≤ 1000 := by omega
  refine ⟨a1, b1, ?_⟩
  by_cases h0 : i = 0
  · subst h0
    refine ⟨.ow ps, .fz (.int 0), ?_, rfl⟩
    simp [z1, eqn, eqp, gListOf, ln, slotD, gGtX, gLtX, gLeX, gGeX, gEqX, gIsX, gNotX, gMulX, gAddX, x_run, DL.pad, x_fz, x_ex, x_nm, Opd.now, x_op, x_op1, x_cmp, x_if, x_and, x_or, x_not, x_andV, x_orV, x_bv, x_notV, x_tru, x_all0, x_all, x_tup, x_lst, x_tob, x_c, x_v, x_part0, x_part, x_sl, x_args0, x_argsS, x_argsE, x_argsO, x_call, x_callF, x_callK, x_app, x_vals0, x_vals, s_seq, s_if, s_ret, s_retV, s_nx, s_drop, s_asg, s_par, s_for, x_seqIt, x_rng, t_nm, t_sub, t_tup, t_nil, t_cons, puts, isOw, slotsOk, cellsOf, DL.cellOf, lentOf, backTo', gCI, Val.d, Val.cell, gDivmod, Tgts.len, gOr, gOrB, gMulI, gAddI, gSubI, gModI, gDivI, gI, gInt, gNeg, gTru, gSl, gIsi, isScr, isTy, reord]
  · have f0 : (i == 0) = false := by simpa using h0
    by_cases h1 : i = 1
    · subst h1
      refine ⟨.fz (.tuple (cutD ps none (some (-1)))), .fz (.int 1), ?_, fun x hx => hs x (List.mem_of_mem_drop (List.mem_of_mem_take hx))⟩
      simp [z1, eqn, eqp, gTupOf, ln, slotD, gGtX, gLtX, gLeX, gGeX, gEqX, gIsX, gNotX, gMulX, gAddX, x_run, DL.pad, x_fz, x_ex, x_nm, Opd.now, x_op, x_op1, x_cmp, x_if, x_and, x_or, x_not, x_andV, x_orV, x_bv, x_notV, x_tru, x_all0, x_all, x_tup, x_lst, x_tob, x_c, x_v, x_part0, x_part, x_sl, x_args0, x_argsS, x_argsE, x_argsO, x_call, x_callF, x_callK, x_app, x_vals0, x_vals, s_seq, s_if, s_ret, s_retV, s_nx, s_drop, s_asg, s_par, s_for, x_seqIt, x_rng, t_nm, t_sub, t_tup, t_nil, t_cons, puts, isOw, slotsOk, cellsOf, DL.cellOf, lentOf, backTo', gCI, Val.d, Val.cell, gDivmod, Tgts.len, gOr, gOrB, gMulI, gAddI, gSubI, gModI, gDivI, gI, gInt, gNeg, gTru, gSl, gIsi, isScr, isTy, reord]
    · have f1 : (i == 1) = false := by simpa using h1
      by_cases h2 : i = 2
      · subst h2
        refine ⟨.fz (.tuple (ps ++ [.int 0])), .fz (.int 2), ?_, fun x hx => ?_⟩
        · have ln9 : ps.length ≤ 999999 := by omega
          simp [z1, eqn, eqp, gTupOf, ln9, gCatL, slotD, gGtX, gLtX, gLeX, gGeX, gEqX, gIsX, gNotX, gMulX, gAddX, x_run, DL.pad, x_fz, x_ex, x_nm, Opd.now, x_op, x_op1, x_cmp, x_if, x_and, x_or, x_not, x_andV, x_orV, x_bv, x_notV, x_tru, x_all0, x_all, x_tup, x_lst, x_tob, x_c, x_v, x_part0, x_part, x_sl, x_args0, x_argsS, x_argsE, x_argsO, x_call, x_callF, x_callK, x_app, x_vals0, x_vals, s_seq, s_if, s_ret, s_retV, s_nx, s_drop, s_asg, s_par, s_for, x_seqIt, x_rng, t_nm, t_sub, t_tup, t_nil, t_cons, puts, isOw, slotsOk, cellsOf, DL.cellOf, lentOf, backTo', gCI, Val.d, Val.cell, gDivmod, Tgts.len, gOr, gOrB, gMulI, gAddI, gSubI, gModI, gDivI, gI, gInt, gNeg, gTru, gSl, gIsi, isScr, isTy, reord]
        · rcases List.mem_append.mp hx with z | z
          · exact hs x z
          · simp at z; subst z; rfl
      · have f2 : (i == 2) = false := by simpa using h2
        refine ⟨.fz (.tuple ps), .fz (.int i), ?_, hs⟩
        simp [z1, eqn, eqp, h0, h1, h2, gTupOf, ln, slotD, gGtX, gLtX, gLeX, gGeX, gEqX, gIsX, gNotX, gMulX, gAddX, x_run, DL.pad, x_fz, x_ex, x_nm, Opd.now, x_op, x_op1, x_cmp, x_if, x_and, x_or, x_not, x_andV, x_orV, x_bv, x_notV, x_tru, x_all0, x_all, x_tup, x_lst, x_tob, x_c, x_v, x_part0, x_part, x_sl, x_args0, x_argsS, x_argsE, x_argsO, x_call, x_callF, x_callK, x_app, x_vals0, x_vals, s_seq, s_if, s_ret, s_retV, s_nx, s_drop, s_asg, s_par, s_for, x_seqIt, x_rng, t_nm, t_sub, t_tup, t_nil, t_cons, puts, isOw, slotsOk, cellsOf, DL.cellOf, lentOf, backTo', gCI, Val.d, Val.cell, gDivmod, Tgts.len, gOr, gOrB, gMulI, gAddI, gSubI, gModI, gDivI, gI, gInt, gNeg, gTru, gSl, gIsi, isScr, isTy, reord]
theorem lt_len (i : Int) (n : Nat) : gLtX (.int i) (.int n) = some (decide (i < n)) := rfl
theorem set_len {ps : List D} {d : D} (i : Nat) (h : ps.length = 3 ∨ ps.length = 4) : (ps.set i d).length = 3 ∨ (ps.set i d).length = 4 := by rw [List.length_set]; exact h
theorem bent_ok (a b : Int) (ps : List D) (hl : ps.length = 3 ∨ ps.length = 4) (hs : ∀ x ∈ ps, isScr x = false) :
    ∃ a' b' r ps', f_law_bent.sem [.ow [.int a, .int b], .ow ps] = .ok r [.ow [.int a', .int b'], .ow ps'] ∧ nsc r.d := by
  obtain ⟨a1, b1, i, z1, i1, i2⟩ := draw_ok a b (2 * ps.length) (by omega) (by omega)
  by_cases hi : i < ps.length
  · obtain ⟨a2, b2, d2, z2, m2⟩ := odd_ok a1 b1
    obtain ⟨a3, b3, d3, z3, _⟩ := near_ok a2 b2
    obtain ⟨a4, b4, d4, z4, m4⟩ := pick_ok a3 b3 [d2, .int d3] (by simp) (by simp)
    have sc : isScr d4 = false := by
      simp only [List.mem_cons, List.not_mem_nil, or_false] at m4
      rcases m4 with rfl | rfl
      · exact (odd_scr m2).1
      · rfl
    obtain ⟨a5, b5, r, c, z5, hr⟩ := bent_end a4 b4 (.fz (.int i)) (ps.set i.toNat d4) (set_len _ hl) (scr_set hs sc _)
    refine ⟨a5, b5, r, ps.set i.toNat d4, ?_, hr⟩
    have hn : ¬ i < 0 := by omega
    have hx : i.toNat < ps.length := by omega
    have k : okMul 2 ps.length = true := by simp [okMul]
    generalize hR : (sSeq (sAsg 2 (mCall' f_law_draw.sem [.sl 0, .ex (mFz (mC (.int 12)))]) (.nm 3))
    (sSeq (sIf (mCmp gEqX (.nm 3) (.ex (mFz (mC (.int 0))))) (sSeq (sRet (mOp1 gListOf (.nm 1)))
    sNx) sNx)
    (sSeq (sIf (mCmp gEqX (.nm 3) (.ex (mFz (mC (.int 1))))) (sSeq (sRet (mOp1 gTupOf (.ex (mFz (mSl (.nm 1) none (some (mFz (mOp1 gNeg (.ex (mFz (mC (.int 1))))))))))))
    sNx) sNx)
    (sSeq (sRet (mIf (mCmp gEqX (.nm 3) (.ex (mFz (mC (.int 2))))) (mOp1 gTupOf (.ex (mFz (mOp gAddX (.nm 1) (.ex (mFz (mLst (mAll [(mFz (mC (.int 0)))])))))))) (mOp1 gTupOf (.nm 1))))
    sNx)))) = R at z5
    simp only [f_law_bent, m_law_bent, hR]
    simp [z1, z2, z3, z4, hi, i1, hx, k, z5, slotD, gGtX, gLtX, gLeX, gGeX, gEqX, gIsX, gNotX, gMulX, gAddX, x_run, DL.pad, x_fz, x_ex, x_nm, Opd.now, x_op, x_op1, x_cmp, x_if, x_and, x_or, x_not, x_andV, x_orV, x_bv, x_notV, x_tru, x_all0, x_all, x_tup, x_lst, x_tob, x_c, x_v, x_part0, x_part, x_sl, x_args0, x_argsS, x_argsE, x_argsO, x_call, x_callF, x_callK, x_app, x_vals0, x_vals, s_seq, s_if, s_ret, s_retV, s_nx, s_drop, s_asg, s_par, s_for, x_seqIt, x_rng, t_nm, t_sub, t_tup, t_nil, t_cons, puts, isOw, slotsOk, cellsOf, DL.cellOf, lentOf, backTo', gIx, atI, ixN, gCI, Val.d, Val.cell, gDivmod, Tgts.len, gOr, gOrB, gMulI, gAddI, gSubI, gModI, gDivI, gI, gInt, gNeg, gTru, gSl, gIsi, isScr, isTy, gLen, reord]
  · obtain ⟨a5, b5, r, c, z5, hr⟩ := bent_end a1 b1 (.fz (.int i)) ps hl hs
    refine ⟨a5, b5, r, ps, ?_, hr⟩
    have k : okMul 2 ps.length = true := by simp [okMul]
    generalize hR : (sSeq (sAsg 2 (mCall' f_law_draw.sem [.sl 0, .ex (mFz (mC (.int 12)))]) (.nm 3))
    (sSeq (sIf (mCmp gEqX (.nm 3) (.ex (mFz (mC (.int 0))))) (sSeq (sRet (mOp1 gListOf (.nm 1)))
    sNx) sNx)
    (sSeq (sIf (mCmp gEqX (.nm 3) (.ex (mFz (mC (.int 1))))) (sSeq (sRet (mOp1 gTupOf (.ex (mFz (mSl (.nm 1) none (some (mFz (mOp1 gNeg (.ex (mFz (mC (.int 1))))))))))))
    sNx) sNx)
    (sSeq (sRet (mIf (mCmp gEqX (.nm 3) (.ex (mFz (mC (.int 2))))) (mOp1 gTupOf (.ex (mFz (mOp gAddX (.nm 1) (.ex (mFz (mLst (mAll [(mFz (mC (.int 0)))])))))))) (mOp1 gTupOf (.nm 1))))
    sNx)))) = R at z5
    simp only [f_law_bent, m_law_bent, hR]
    simp [z1, hi, k, z5, slotD, gGtX, gLtX, gLeX, gGeX, gEqX, gIsX, gNotX, gMulX, gAddX, x_run, DL.pad, x_fz, x_ex, x_nm, Opd.now, x_op, x_op1, x_cmp, x_if, x_and, x_or, x_not, x_andV, x_orV, x_bv, x_notV, x_tru, x_all0, x_all, x_tup, x_lst, x_tob, x_c, x_v, x_part0, x_part, x_sl, x_args0, x_argsS, x_argsE, x_argsO, x_call, x_callF, x_callK, x_app, x_vals0, x_vals, s_seq, s_if, s_ret, s_retV, s_nx, s_drop, s_asg, s_par, s_for, x_seqIt, x_rng, t_nm, t_sub, t_tup, t_nil, t_cons, puts, isOw, slotsOk, cellsOf, DL.cellOf, lentOf, backTo', gIx, atI, ixN, gCI, Val.d, Val.cell, gDivmod, Tgts.len, gOr, gOrB, gMulI, gAddI, gSubI, gModI, gDivI, gI, gInt, gNeg, gTru, gSl, gIsi, isScr, isTy, gLen, reord]
end K10

/-! K10s: the turns of the law. -/
namespace K10
open PySem PySem.Spec PyProof.Rows L2 DL

theorem rep3 (a b c : Bool) : ∃ s, gRepr (.list [.bool a, .bool b, .bool c]) = some (.fz (.str s)) := by
  cases a <;> cases b <;> cases c <;> exact ⟨_, by unfold gRepr; rw [if_pos (by decide +kernel)]⟩
theorem rep4 (a b c d : Bool) : ∃ s, gRepr (.list [.bool a, .bool b, .bool c, .bool d]) = some (.fz (.str s)) := by
  cases a <;> cases b <;> cases c <;> cases d <;> exact ⟨_, by unfold gRepr; rw [if_pos (by decide +kernel)]⟩
theorem str_ne (s : Str) : gNeP (.str s) (.str s) = some false := by
  simp [gNeP, gEqP, PyData.plain, shal, PyData.depth, PyData.eqv]
theorem pow30 : gPowI (.int 10) (.int 30) = some (.fz (.int 1000000000000000000000000000000)) := by
  have k : okPow 10 30 = true := by unfold okPow; exact decide_eq_true ⟨by decide, by decide, by decide⟩
  simp [gPowI, gI, k]
theorem num_all {v : D} (h : ∀ i, v = .int i → -(10 ^ 30) ≤ i ∧ i ≤ 10 ^ 30) : within v (-1000000000000000000000000000000) 1000000000000000000000000000000 = isInt v ∧ within v 0 1000000000000000000000000000000 = cntB v := by
  cases v <;> simp [within, isInt, cntB]
  rename_i i
  have := h i rfl
  omega
theorem body1 (a b : Int) (c1 c4 c5 : Cell) : ∃ a' b' v ds, b1_law_right [.ow [.int a, .int b], c1, .no, .no, c4, c5, .no, .no, .no, .no, .no] = .nx [.ow [.int a', .int b'], c1, .no, .no, .fz v, .ow ds, .no, .no, .no, .no, .no] := by
  obtain ⟨a1, b1, d1, z1, m1⟩ := odd_ok a b
  obtain ⟨a2, b2, i2, z2, m2, m2'⟩ := near_ok a1 b1
  obtain ⟨a3, b3, i3, z3, m3, m3'⟩ := near_ok a2 b2
  obtain ⟨a4, b4, v, z4, m4⟩ := pick_ok a3 b3 [d1, .int i2, .int i3] (by simp) (by simp)
  have hv : isScr v = false ∧ ∀ i, v = .int i → -(10 ^ 30) ≤ i ∧ i ≤ 10 ^ 30 := by
    simp only [List.mem_cons, List.not_mem_nil, or_false] at m4
    rcases m4 with rfl | rfl | rfl
    · exact ⟨(odd_scr m1).1, fun i e => odd_num m1 i e⟩
    · exact ⟨rfl, fun i e => by cases e; omega⟩
    · exact ⟨rfl, fun i e => by cases e; omega⟩
  obtain ⟨n1, n2⟩ := num_all hv.2
  have y1 := num_sem v (-1000000000000000000000000000000) 1000000000000000000000000000000 hv.1
  have y2 := num_sem v 0 1000000000000000000000000000000 hv.1
  have y3 := num_sem v (-99999) 99999 hv.1
  rw [n1] at y1
  rw [n2] at y2
  have x1 := is_integer_sem v hv.1
  have x2 : f_is_count.sem [.fz v] = .ok (.fz (.bool (cntB v))) [.fz v] := count_sem v hv.1
  have x3 := is_year_sem v hv.1
  obtain ⟨s, hs⟩ := rep3 (isInt v) (cntB v) (within v (-99999) 99999)
  generalize isInt v = q1 at *
  generalize cntB v = q2 at *
  generalize within v (-99999) 99999 = q3 at *
  refine ⟨a4, b4, v, [.bool q1, .bool q2, .bool q3], ?_⟩
  have h1 : (sAsg 1 (mCall' f_law_pick.sem [.sl 0, .ex (mFz (mLst (mAll [(mFz (mCall' f_law_odd.sem [.sl 0])), (mFz (mCall' f_law_near.sem [.sl 0])), (mFz (mCall' f_law_near.sem [.sl 0]))])))]) (.nm 4)) [.ow [.int a, .int b], c1, .no, .no, c4, c5, .no, .no, .no, .no, .no] = .nx [.ow [.int a4, .int b4], c1, .no, .no, .fz v, c5, .no, .no, .no, .no, .no] := by
    simp [z1, z2, z3, z4, slotD, gGtX, gLtX, gLeX, gGeX, gEqX, gIsX, gNotX, gMulX, gAddX, x_run, DL.pad, x_fz, x_ex, x_nm, Opd.now, x_op, x_op1, x_cmp, x_if, x_and, x_or, x_not, x_andV, x_orV, x_bv, x_notV, x_tru, x_all0, x_all, x_tup, x_lst, x_tob, x_c, x_v, x_part0, x_part, x_sl, x_args0, x_argsS, x_argsE, x_argsO, x_call, x_callF, x_callK, x_app, x_vals0, x_vals, s_seq, s_if, s_ret, s_retV, s_nx, s_drop, s_asg, s_par, s_for, x_seqIt, x_rng, t_nm, t_sub, t_tup, t_nil, t_cons, puts, isOw, slotsOk, cellsOf, DL.cellOf, lentOf, backTo', gIx, atI, ixN, gCI, Val.d, Val.cell, gDivmod, Tgts.len, gOr, gOrB, gMulI, gAddI, gSubI, gModI, gDivI, gI, gInt, gNeg, gTru, gSl, gIsi, isScr, isTy, gLen, reord]
  have h2 : (sAsg 1 (mLst (mAll [(mFz (mCall' f_law_is_number.sem [.ex (mFz (mV 1 4)), .ex (mFz (mOp gSubI (.ex (mFz (mC (.int 0)))) (.ex (mFz (mOp gPowI (.ex (mFz (mC (.int 10)))) (.ex (mFz (mC (.int 30))))))))), .ex (mFz (mOp gPowI (.ex (mFz (mC (.int 10)))) (.ex (mFz (mC (.int 30))))))])), (mFz (mCall' f_law_is_number.sem [.ex (mFz (mV 1 4)), .ex (mFz (mC (.int 0))), .ex (mFz (mOp gPowI (.ex (mFz (mC (.int 10)))) (.ex (mFz (mC (.int 30))))))])), (mFz (mCall' f_law_is_number.sem [.ex (mFz (mV 1 4)), .ex (mFz (mOp1 gNeg (.ex (mFz (mC (.int 99999)))))), .ex (mFz (mC (.int 99999)))]))])) (.nm 5)) [.ow [.int a4, .int b4], c1, .no, .no, .fz v, c5, .no, .no, .no, .no, .no] = .nx [.ow [.int a4, .int b4], c1, .no, .no, .fz v, .ow [.bool q1, .bool q2, .bool q3], .no, .no, .no, .no, .no] := by
    simp [pow30, y1, y2, y3, slotD, gGtX, gLtX, gLeX, gGeX, gEqX, gIsX, gNotX, gMulX, gAddX, x_run, DL.pad, x_fz, x_ex, x_nm, Opd.now, x_op, x_op1, x_cmp, x_if, x_and, x_or, x_not, x_andV, x_orV, x_bv, x_notV, x_tru, x_all0, x_all, x_tup, x_lst, x_tob, x_c, x_v, x_part0, x_part, x_sl, x_args0, x_argsS, x_argsE, x_argsO, x_call, x_callF, x_callK, x_app, x_vals0, x_vals, s_seq, s_if, s_ret, s_retV, s_nx, s_drop, s_asg, s_par, s_for, x_seqIt, x_rng, t_nm, t_sub, t_tup, t_nil, t_cons, puts, isOw, slotsOk, cellsOf, DL.cellOf, lentOf, backTo', gIx, atI, ixN, gCI, Val.d, Val.cell, gDivmod, Tgts.len, gOr, gOrB, gMulI, gAddI, gSubI, gModI, gDivI, gI, gInt, gNeg, gTru, gSl, gIsi, isScr, isTy, gLen, reord]
  have h3 : (sIf (mCmp gNeP (.ex (mFz (mOp1 gRepr (.ex (mFz (mLst (mAll [(mFz (mCall' f_is_integer.sem [.ex (mFz (mV 1 4))])), (mFz (mCall' f_is_count.sem [.ex (mFz (mV 1 4))])), (mFz (mCallK f_is_year.sem ["value"] f_is_year.ps [(mFz (mV 1 4))]))]))))))) (.ex (mFz (mOp1 gRepr (.nm 5))))) (sSeq (sRet (mC (.bool false)))
    sNx) sNx) [.ow [.int a4, .int b4], c1, .no, .no, .fz v, .ow [.bool q1, .bool q2, .bool q3], .no, .no, .no, .no, .no] = .nx [.ow [.int a4, .int b4], c1, .no, .no, .fz v, .ow [.bool q1, .bool q2, .bool q3], .no, .no, .no, .no, .no] := by
    have ps : f_is_year.ps = [("value" : Str)] := rfl
    simp [x1, x2, x3, hs, str_ne, ps, slotD, gGtX, gLtX, gLeX, gGeX, gEqX, gIsX, gNotX, gMulX, gAddX, x_run, DL.pad, x_fz, x_ex, x_nm, Opd.now, x_op, x_op1, x_cmp, x_if, x_and, x_or, x_not, x_andV, x_orV, x_bv, x_notV, x_tru, x_all0, x_all, x_tup, x_lst, x_tob, x_c, x_v, x_part0, x_part, x_sl, x_args0, x_argsS, x_argsE, x_argsO, x_call, x_callF, x_callK, x_app, x_vals0, x_vals, s_seq, s_if, s_ret, s_retV, s_nx, s_drop, s_asg, s_par, s_for, x_seqIt, x_rng, t_nm, t_sub, t_tup, t_nil, t_cons, puts, isOw, slotsOk, cellsOf, DL.cellOf, lentOf, backTo', gIx, atI, ixN, gCI, Val.d, Val.cell, gDivmod, Tgts.len, gOr, gOrB, gMulI, gAddI, gSubI, gModI, gDivI, gI, gInt, gNeg, gTru, gSl, gIsi, isScr, isTy, gLen, reord]
  simp only [b1_law_right, s_seq, h1, h2, h3, s_nx]
theorem bodyA (a b : Int) (c1 c4 c5 c6 c7 c8 c9 c10 : Cell) : ∃ (a' b' l : Int) (v w u : D), (∀ k : SM, (sSeq (sAsg 1 (mCall' f_law_pick.sem [.sl 0, .ex (mFz (mLst (mAll [(mFz (mC (.int 1))), (mFz (mC (.int 2))), (mFz (mC (.int 3))), (mFz (mC (.int 40)))])))]) (.nm 6)) (sSeq (sAsg 1 (mCall' f_law_bent.sem [.sl 0, .own (mLst (mAll [(mFz (mCall' f_law_draw.sem [.sl 0, .ex (mFz (mV 1 6))])), (mFz (mCall' f_law_draw.sem [.sl 0, .ex (mFz (mV 1 6))])), (mFz (mCall' f_law_pick.sem [.sl 0, .ex (mFz (mLst (mAll [(mFz (mC (.int 0))), (mFz (mC (.int 9999))), (mFz (mOp1 gNeg (.ex (mFz (mC (.int 9999)))))), (mFz (mCall' f_law_near.sem [.sl 0]))])))]))]))]) (.nm 7)) (sSeq (sAsg 1 (mLst (mAll [(mFz (mCall' f_law_pick.sem [.sl 0, .ex (mFz (mLst (mAll [(mFz (mC (.str "after"))), (mFz (mC (.str "before")))])))])), (mFz (mCall' f_law_draw.sem [.sl 0, .ex (mFz (mV 1 6))])), (mFz (mCall' f_law_near.sem [.sl 0])), (mFz (mCall' f_law_pick.sem [.sl 0, .ex (mFz (mLst (mAll [(mFz (mC (.int 1))), (mFz (mC (.int 9999))), (mFz (mC (.int 5)))])))]))])) (.nm 8)) (sSeq (sAsg 1 (mCall' f_law_bent.sem [.sl 0, .sl 8]) (.nm 8)) (sSeq (sAsg 1 (mCall' f_law_pick.sem [.sl 0, .ex (mFz (mLst (mAll [(mFz (mV 1 7)), (mFz (mV 1 8)), (mFz (mCall' f_law_odd.sem [.sl 0]))])))]) (.nm 9)) k))))) [.ow [.int a, .int b], c1, .no, .no, c4, c5, c6, c7, c8, c9, c10] = k [.ow [.int a', .int b'], c1, .no, .no, c4, c5, .fz (.int l), .fz v, .fz w, .fz u, c10]) ∧
    (1 ≤ l ∧ l ≤ 40) ∧ nsc v ∧ nsc w ∧ nsc u := by
  obtain ⟨a1, b1, d1, z1, m1⟩ := pick_ok a b [.int 1, .int 2, .int 3, .int 40] (by simp) (by simp)
  obtain ⟨l, rfl, hl⟩ : ∃ l : Int, d1 = .int l ∧ 1 ≤ l ∧ l ≤ 40 := by
    simp only [List.mem_cons, List.not_mem_nil, or_false] at m1
    rcases m1 with h | h | h | h <;> exact ⟨_, h, by decide, by decide⟩
  obtain ⟨a2, b2, i2, z2, _⟩ := draw_ok a1 b1 l hl.1 (by omega)
  obtain ⟨a3, b3, i3, z3, _⟩ := draw_ok a2 b2 l hl.1 (by omega)
  obtain ⟨a4, b4, i4, z4, _⟩ := near_ok a3 b3
  obtain ⟨a5, b5, d5, z5, m5⟩ := pick_ok a4 b4 [.int 0, .int 9999, .int (-9999), .int i4] (by simp) (by simp)
  have s5 : isScr d5 = false := by
    simp only [List.mem_cons, List.not_mem_nil, or_false] at m5
    rcases m5 with rfl | rfl | rfl | rfl <;> rfl
  obtain ⟨a6, b6, r6, p6, z6, h6⟩ := bent_ok a5 b5 [.int i2, .int i3, d5] (.inl rfl) (by intro x hx; simp at hx; rcases hx with rfl | rfl | rfl <;> first | rfl | exact s5)
  obtain ⟨a7, b7, d7, z7, m7⟩ := pick_ok a6 b6 [.str "after", .str "before"] (by simp) (by simp)
  have s7 : isScr d7 = false := by
    simp only [List.mem_cons, List.not_mem_nil, or_false] at m7
    rcases m7 with rfl | rfl <;> rfl
  obtain ⟨a8, b8, i8, z8, _⟩ := draw_ok a7 b7 l hl.1 (by omega)
  obtain ⟨a9, b9, i9, z9, _⟩ := near_ok a8 b8
  obtain ⟨aa, ba, da, za, ma⟩ := pick_ok a9 b9 [.int 1, .int 9999, .int 5] (by simp) (by simp)
  have sa : isScr da = false := by
    simp only [List.mem_cons, List.not_mem_nil, or_false] at ma
    rcases ma with rfl | rfl | rfl <;> rfl
  obtain ⟨ab, bb, rb, pb, zb, hb⟩ := bent_ok aa ba [d7, .int i8, .int i9, da] (.inr rfl) (by intro x hx; simp at hx; rcases hx with rfl | rfl | rfl | rfl <;> first | rfl | exact s7 | exact sa)
  obtain ⟨ac, bc, dc, zc, mc⟩ := odd_ok ab bb
  obtain ⟨ad, bd, u, zd, md⟩ := pick_ok ac bc [r6.d, rb.d, dc] (by simp) (by simp)
  have hu : nsc u := by
    simp only [List.mem_cons, List.not_mem_nil, or_false] at md
    rcases md with rfl | rfl | rfl
    · exact h6
    · exact hb
    · exact (odd_scr mc).2
  refine ⟨ad, bd, l, r6.d, rb.d, u, fun k => ?_, hl, h6, hb, hu⟩
  have h1 : (sAsg 1 (mCall' f_law_pick.sem [.sl 0, .ex (mFz (mLst (mAll [(mFz (mC (.int 1))), (mFz (mC (.int 2))), (mFz (mC (.int 3))), (mFz (mC (.int 40)))])))]) (.nm 6)) [.ow [.int a, .int b], c1, .no, .no, c4, c5, c6, c7, c8, c9, c10] = .nx [.ow [.int a1, .int b1], c1, .no, .no, c4, c5, .fz (.int l), c7, c8, c9, c10] := by
    simp [z1, slotD, gGtX, gLtX, gLeX, gGeX, gEqX, gIsX, gNotX, gMulX, gAddX, x_run, DL.pad, x_fz, x_ex, x_nm, Opd.now, x_op, x_op1, x_cmp, x_if, x_and, x_or, x_not, x_andV, x_orV, x_bv, x_notV, x_tru, x_all0, x_all, x_tup, x_lst, x_tob, x_c, x_v, x_part0, x_part, x_sl, x_args0, x_argsS, x_argsE, x_argsO, x_call, x_callF, x_callK, x_app, x_vals0, x_vals, s_seq, s_if, s_ret, s_retV, s_nx, s_drop, s_asg, s_par, s_for, x_seqIt, x_rng, t_nm, t_sub, t_tup, t_nil, t_cons, puts, isOw, slotsOk, cellsOf, DL.cellOf, lentOf, backTo', gIx, atI, ixN, gCI, Val.d, Val.cell, gDivmod, Tgts.len, gOr, gOrB, gMulI, gAddI, gSubI, gModI, gDivI, gI, gInt, gNeg, gTru, gSl, gIsi, isScr, isTy, gLen, reord]
  have h2 : (sAsg 1 (mCall' f_law_bent.sem [.sl 0, .own (mLst (mAll [(mFz (mCall' f_law_draw.sem [.sl 0, .ex (mFz (mV 1 6))])), (mFz (mCall' f_law_draw.sem [.sl 0, .ex (mFz (mV 1 6))])), (mFz (mCall' f_law_pick.sem [.sl 0, .ex (mFz (mLst (mAll [(mFz (mC (.int 0))), (mFz (mC (.int 9999))), (mFz (mOp1 gNeg (.ex (mFz (mC (.int 9999)))))), (mFz (mCall' f_law_near.sem [.sl 0]))])))]))]))]) (.nm 7)) [.ow [.int a1, .int b1], c1, .no, .no, c4, c5, .fz (.int l), c7, c8, c9, c10] = .nx [.ow [.int a6, .int b6], c1, .no, .no, c4, c5, .fz (.int l), r6.cell, c8, c9, c10] := by
    simp [z2, z3, z4, z5, z6, slotD, gGtX, gLtX, gLeX, gGeX, gEqX, gIsX, gNotX, gMulX, gAddX, x_run, DL.pad, x_fz, x_ex, x_nm, Opd.now, x_op, x_op1, x_cmp, x_if, x_and, x_or, x_not, x_andV, x_orV, x_bv, x_notV, x_tru, x_all0, x_all, x_tup, x_lst, x_tob, x_c, x_v, x_part0, x_part, x_sl, x_args0, x_argsS, x_argsE, x_argsO, x_call, x_callF, x_callK, x_app, x_vals0, x_vals, s_seq, s_if, s_ret, s_retV, s_nx, s_drop, s_asg, s_par, s_for, x_seqIt, x_rng, t_nm, t_sub, t_tup, t_nil, t_cons, puts, isOw, slotsOk, cellsOf, DL.cellOf, lentOf, backTo', gIx, atI, ixN, gCI, Val.d, gDivmod, Tgts.len, gOr, gOrB, gMulI, gAddI, gSubI, gModI, gDivI, gI, gInt, gNeg, gTru, gSl, gIsi, isScr, isTy, gLen, reord]
  have h3 : (sAsg 1 (mLst (mAll [(mFz (mCall' f_law_pick.sem [.sl 0, .ex (mFz (mLst (mAll [(mFz (mC (.str "after"))), (mFz (mC (.str "before")))])))])), (mFz (mCall' f_law_draw.sem [.sl 0, .ex (mFz (mV 1 6))])), (mFz (mCall' f_law_near.sem [.sl 0])), (mFz (mCall' f_law_pick.sem [.sl 0, .ex (mFz (mLst (mAll [(mFz (mC (.int 1))), (mFz (mC (.int 9999))), (mFz (mC (.int 5)))])))]))])) (.nm 8)) [.ow [.int a6, .int b6], c1, .no, .no, c4, c5, .fz (.int l), r6.cell, c8, c9, c10] = .nx [.ow [.int aa, .int ba], c1, .no, .no, c4, c5, .fz (.int l), r6.cell, .ow [d7, .int i8, .int i9, da], c9, c10] := by
    simp [z7, z8, z9, za, slotD, gGtX, gLtX, gLeX, gGeX, gEqX, gIsX, gNotX, gMulX, gAddX, x_run, DL.pad, x_fz, x_ex, x_nm, Opd.now, x_op, x_op1, x_cmp, x_if, x_and, x_or, x_not, x_andV, x_orV, x_bv, x_notV, x_tru, x_all0, x_all, x_tup, x_lst, x_tob, x_c, x_v, x_part0, x_part, x_sl, x_args0, x_argsS, x_argsE, x_argsO, x_call, x_callF, x_callK, x_app, x_vals0, x_vals, s_seq, s_if, s_ret, s_retV, s_nx, s_drop, s_asg, s_par, s_for, x_seqIt, x_rng, t_nm, t_sub, t_tup, t_nil, t_cons, puts, isOw, slotsOk, cellsOf, DL.cellOf, lentOf, backTo', gIx, atI, ixN, gCI, Val.d, Val.cell, gDivmod, Tgts.len, gOr, gOrB, gMulI, gAddI, gSubI, gModI, gDivI, gI, gInt, gNeg, gTru, gSl, gIsi, isScr, isTy, gLen, reord]
  have h4 : (sAsg 1 (mCall' f_law_bent.sem [.sl 0, .sl 8]) (.nm 8)) [.ow [.int aa, .int ba], c1, .no, .no, c4, c5, .fz (.int l), r6.cell, .ow [d7, .int i8, .int i9, da], c9, c10] = .nx [.ow [.int ab, .int bb], c1, .no, .no, c4, c5, .fz (.int l), r6.cell, rb.cell, c9, c10] := by
    simp [zb, slotD, gGtX, gLtX, gLeX, gGeX, gEqX, gIsX, gNotX, gMulX, gAddX, x_run, DL.pad, x_fz, x_ex, x_nm, Opd.now, x_op, x_op1, x_cmp, x_if, x_and, x_or, x_not, x_andV, x_orV, x_bv, x_notV, x_tru, x_all0, x_all, x_tup, x_lst, x_tob, x_c, x_v, x_part0, x_part, x_sl, x_args0, x_argsS, x_argsE, x_argsO, x_call, x_callF, x_callK, x_app, x_vals0, x_vals, s_seq, s_if, s_ret, s_retV, s_nx, s_drop, s_asg, s_par, s_for, x_seqIt, x_rng, t_nm, t_sub, t_tup, t_nil, t_cons, puts, isOw, slotsOk, cellsOf, DL.cellOf, lentOf, backTo', gIx, atI, ixN, gCI, Val.d, gDivmod, Tgts.len, gOr, gOrB, gMulI, gAddI, gSubI, gModI, gDivI, gI, gInt, gNeg, gTru, gSl, gIsi, isScr, isTy, gLen, reord]
  have h5 : (sAsg 1 (mCall' f_law_pick.sem [.sl 0, .ex (mFz (mLst (mAll [(mFz (mV 1 7)), (mFz (mV 1 8)), (mFz (mCall' f_law_odd.sem [.sl 0]))])))]) (.nm 9)) [.ow [.int ab, .int bb], c1, .no, .no, c4, c5, .fz (.int l), r6.cell, rb.cell, c9, c10] = .nx [.ow [.int ad, .int bd], c1, .no, .no, c4, c5, .fz (.int l), .fz r6.d, .fz rb.d, .fz u, c10] := by
    cases r6 <;> cases rb <;> simp [Val.d] at zd <;> simp [zc, zd, slotD, gGtX, gLtX, gLeX, gGeX, gEqX, gIsX, gNotX, gMulX, gAddX, x_run, DL.pad, x_fz, x_ex, x_nm, Opd.now, x_op, x_op1, x_cmp, x_if, x_and, x_or, x_not, x_andV, x_orV, x_bv, x_notV, x_tru, x_all0, x_all, x_tup, x_lst, x_tob, x_c, x_v, x_part0, x_part, x_sl, x_args0, x_argsS, x_argsE, x_argsO, x_call, x_callF, x_callK, x_app, x_vals0, x_vals, s_seq, s_if, s_ret, s_retV, s_nx, s_drop, s_asg, s_par, s_for, x_seqIt, x_rng, t_nm, t_sub, t_tup, t_nil, t_cons, puts, isOw, slotsOk, cellsOf, DL.cellOf, lentOf, backTo', gIx, atI, ixN, gCI, Val.d, Val.cell, gDivmod, Tgts.len, gOr, gOrB, gMulI, gAddI, gSubI, gModI, gDivI, gI, gInt, gNeg, gTru, gSl, gIsi, isScr, isTy, gLen, reord]
  simp only [s_seq, h1, h2, h3, h4, h5]
theorem bodyB (a b l : Int) (c1 c4 c5 c10 : Cell) (v w u : D) (hl : 1 ≤ l ∧ l ≤ 40) (hv : nsc v) (hw : nsc w) (hu : nsc u) :
    ∃ ds es, ((sSeq (sAsg 1 (mLst (mAll [(mFz (mCall' f_is_link.sem [.ex (mFz (mV 1 6)), .ex (mFz (mV 1 7))])), (mFz (mCall' f_is_find.sem [.ex (mFz (mV 1 6)), .ex (mFz (mV 1 8))])), (mFz (mCallK f_is_link.sem ["value", "layers"] f_is_link.ps [(mFz (mV 1 9)), (mFz (mV 1 6))])), (mFz (mCallK f_is_find.sem ["value", "layers"] f_is_find.ps [(mFz (mV 1 9)), (mFz (mV 1 6))]))])) (.nm 10))
    (sSeq (sAsg 1 (mLst (mAll [(mFz (mCall' f_law_is_link.sem [.ex (mFz (mV 1 6)), .ex (mFz (mV 1 7))])), (mFz (mCall' f_law_is_find.sem [.ex (mFz (mV 1 6)), .ex (mFz (mV 1 8))])), (mFz (mCall' f_law_is_link.sem [.ex (mFz (mV 1 6)), .ex (mFz (mV 1 9))])), (mFz (mCall' f_law_is_find.sem [.ex (mFz (mV 1 6)), .ex (mFz (mV 1 9))]))])) (.nm 5))
    (sSeq (sIf (mCmp gNeP (.ex (mFz (mOp1 gRepr (.nm 10)))) (.ex (mFz (mOp1 gRepr (.nm 5))))) (sSeq (sRet (mC (.bool false)))
    sNx) sNx)
    sNx)))) [.ow [.int a, .int b], c1, .no, .no, c4, c5, .fz (.int l), .fz v, .fz w, .fz u, c10] = .nx [.ow [.int a, .int b], c1, .no, .no, c4, .ow ds, .fz (.int l), .fz v, .fz w, .fz u, .ow es] := by
  have x1 := link_full l v hl hv
  have x2 := find_full l w hl hw
  have x3 := link_full l u hl hu
  have x4 := find_full l u hl hu
  have y1 := law_is_link_sem l v hv
  have y2 := law_is_find_sem l w hw
  have y3 := law_is_link_sem l u hu
  have y4 := law_is_find_sem l u hu
  obtain ⟨s, hs⟩ := rep4 (linkB l v) (findB l w) (linkB l u) (findB l u)
  generalize linkB l v = q1 at *
  generalize findB l w = q2 at *
  generalize linkB l u = q3 at *
  generalize findB l u = q4 at *
  refine ⟨[.bool q1, .bool q2, .bool q3, .bool q4], [.bool q1, .bool q2, .bool q3, .bool q4], ?_⟩
  have p1 : f_is_link.ps = [("layers" : Str), "value"] := rfl
  have p2 : f_is_find.ps = [("layers" : Str), "value"] := rfl
  have rk : List.lookup ("layers" : Str) [(("value" : Str), u), (("layers" : Str), PyData.int l)] = some (.int l) := by rfl
  have h1 : (sAsg 1 (mLst (mAll [(mFz (mCall' f_is_link.sem [.ex (mFz (mV 1 6)), .ex (mFz (mV 1 7))])), (mFz (mCall' f_is_find.sem [.ex (mFz (mV 1 6)), .ex (mFz (mV 1 8))])), (mFz (mCallK f_is_link.sem ["value", "layers"] f_is_link.ps [(mFz (mV 1 9)), (mFz (mV 1 6))])), (mFz (mCallK f_is_find.sem ["value", "layers"] f_is_find.ps [(mFz (mV 1 9)), (mFz (mV 1 6))]))])) (.nm 10)) [.ow [.int a, .int b], c1, .no, .no, c4, c5, .fz (.int l), .fz v, .fz w, .fz u, c10] = .nx [.ow [.int a, .int b], c1, .no, .no, c4, c5, .fz (.int l), .fz v, .fz w, .fz u, .ow [.bool q1, .bool q2, .bool q3, .bool q4]] := by
    simp [x1, x2, x3, x4, p1, p2, rk, slotD, gGtX, gLtX, gLeX, gGeX, gEqX, gIsX, gNotX, gMulX, gAddX, x_run, DL.pad, x_fz, x_ex, x_nm, Opd.now, x_op, x_op1, x_cmp, x_if, x_and, x_or, x_not, x_andV, x_orV, x_bv, x_notV, x_tru, x_all0, x_all, x_tup, x_lst, x_tob, x_c, x_v, x_part0, x_part, x_sl, x_args0, x_argsS, x_argsE, x_argsO, x_call, x_callF, x_callK, x_app, x_vals0, x_vals, s_seq, s_if, s_ret, s_retV, s_nx, s_drop, s_asg, s_par, s_for, x_seqIt, x_rng, t_nm, t_sub, t_tup, t_nil, t_cons, puts, isOw, slotsOk, cellsOf, DL.cellOf, lentOf, backTo', gIx, atI, ixN, gCI, Val.d, Val.cell, gDivmod, Tgts.len, gOr, gOrB, gMulI, gAddI, gSubI, gModI, gDivI, gI, gInt, gNeg, gTru, gSl, gIsi, isScr, isTy, gLen, reord]
  have h2 : (sAsg 1 (mLst (mAll [(mFz (mCall' f_law_is_link.sem [.ex (mFz (mV 1 6)), .ex (mFz (mV 1 7))])), (mFz (mCall' f_law_is_find.sem [.ex (mFz (mV 1 6)), .ex (mFz (mV 1 8))])), (mFz (mCall' f_law_is_link.sem [.ex (mFz (mV 1 6)), .ex (mFz (mV 1 9))])), (mFz (mCall' f_law_is_find.sem [.ex (mFz (mV 1 6)), .ex (mFz (mV 1 9))]))])) (.nm 5)) [.ow [.int a, .int b], c1, .no, .no, c4, c5, .fz (.int l), .fz v, .fz w, .fz u, .ow [.bool q1, .bool q2, .bool q3, .bool q4]] = .nx [.ow [.int a, .int b], c1, .no, .no, c4, .ow [.bool q1, .bool q2, .bool q3, .bool q4], .fz (.int l), .fz v, .fz w, .fz u, .ow [.bool q1, .bool q2, .bool q3, .bool q4]] := by
    simp [y1, y2, y3, y4, slotD, gGtX, gLtX, gLeX, gGeX, gEqX, gIsX, gNotX, gMulX, gAddX, x_run, DL.pad, x_fz, x_ex, x_nm, Opd.now, x_op, x_op1, x_cmp, x_if, x_and, x_or, x_not, x_andV, x_orV, x_bv, x_notV, x_tru, x_all0, x_all, x_tup, x_lst, x_tob, x_c, x_v, x_part0, x_part, x_sl, x_args0, x_argsS, x_argsE, x_argsO, x_call, x_callF, x_callK, x_app, x_vals0, x_vals, s_seq, s_if, s_ret, s_retV, s_nx, s_drop, s_asg, s_par, s_for, x_seqIt, x_rng, t_nm, t_sub, t_tup, t_nil, t_cons, puts, isOw, slotsOk, cellsOf, DL.cellOf, lentOf, backTo', gIx, atI, ixN, gCI, Val.d, Val.cell, gDivmod, Tgts.len, gOr, gOrB, gMulI, gAddI, gSubI, gModI, gDivI, gI, gInt, gNeg, gTru, gSl, gIsi, isScr, isTy, gLen, reord]
  have h3 : (sIf (mCmp gNeP (.ex (mFz (mOp1 gRepr (.nm 10)))) (.ex (mFz (mOp1 gRepr (.nm 5))))) (sSeq (sRet (mC (.bool false)))
    sNx) sNx) [.ow [.int a, .int b], c1, .no, .no, c4, .ow [.bool q1, .bool q2, .bool q3, .bool q4], .fz (.int l), .fz v, .fz w, .fz u, .ow [.bool q1, .bool q2, .bool q3, .bool q4]] = .nx [.ow [.int a, .int b], c1, .no, .no, c4, .ow [.bool q1, .bool q2, .bool q3, .bool q4], .fz (.int l), .fz v, .fz w, .fz u, .ow [.bool q1, .bool q2, .bool q3, .bool q4]] := by
    simp [hs, str_ne, slotD, gGtX, gLtX, gLeX, gGeX, gEqX, gIsX, gNotX, gMulX, gAddX, x_run, DL.pad, x_fz, x_ex, x_nm, Opd.now, x_op, x_op1, x_cmp, x_if, x_and, x_or, x_not, x_andV, x_orV, x_bv, x_notV, x_tru, x_all0, x_all, x_tup, x_lst, x_tob, x_c, x_v, x_part0, x_part, x_sl, x_args0, x_argsS, x_argsE, x_argsO, x_call, x_callF, x_callK, x_app, x_vals0, x_vals, s_seq, s_if, s_ret, s_retV, s_nx, s_drop, s_asg, s_par, s_for, x_seqIt, x_rng, t_nm, t_sub, t_tup, t_nil, t_cons, puts, isOw, slotsOk, cellsOf, DL.cellOf, lentOf, backTo', gIx, atI, ixN, gCI, Val.d, Val.cell, gDivmod, Tgts.len, gOr, gOrB, gMulI, gAddI, gSubI, gModI, gDivI, gI, gInt, gNeg, gTru, gSl, gIsi, isScr, isTy, gLen, reord]
  simp only [s_seq, h1, h2, h3, s_nx]
end K10

/-! K10u: a turn is right; the law. -/
namespace K10
open PySem PySem.Spec PyProof.Rows L2 DL

def I1 (e : DEnv) : Prop := ∃ (a b : Int) (c1 c4 c5 : Cell), e = [.ow [.int a, .int b], c1, .no, .no, c4, c5, .no, .no, .no, .no, .no]
def I2 (e : DEnv) : Prop := ∃ (a b : Int) (c1 c4 c5 c6 c7 c8 c9 c10 : Cell), e = [.ow [.int a, .int b], c1, .no, .no, c4, c5, c6, c7, c8, c9, c10]
theorem loop1 (a b : Int) : ∃ e, forL 1 (.nm 1) b1_law_right (rangeD 0 6) [.ow [.int a, .int b], .no, .no, .no, .no, .no, .no, .no, .no, .no, .no] = .nx e ∧ I1 e := by
  refine for_inv I1 _ _ (fun d _ e he => ?_) ⟨a, b, .no, .no, .no, rfl⟩
  obtain ⟨a, b, c1, c4, c5, rfl⟩ := he
  obtain ⟨a', b', v, ds, h⟩ := body1 a b (.fz d) c4 c5
  exact ⟨[.ow [.int a, .int b], .fz d, .no, .no, c4, c5, .no, .no, .no, .no, .no], _, by simp [t_nm, Val.cell], h, a', b', _, _, _, rfl⟩
theorem body0 (a b : Int) (c1 c4 c5 c6 c7 c8 c9 c10 : Cell) : ∃ e, b0_law_right [.ow [.int a, .int b], c1, .no, .no, c4, c5, c6, c7, c8, c9, c10] = .nx e ∧ I2 e := by
  obtain ⟨a', b', l, v, w, u, h, hl, hv, hw, hu⟩ := bodyA a b c1 c4 c5 c6 c7 c8 c9 c10
  obtain ⟨ds, es, h2⟩ := bodyB a' b' l c1 c4 c5 c10 v w u hl hv hw hu
  exact ⟨_, (h _).trans h2, _, _, _, _, _, _, _, _, _, _, rfl⟩
theorem loop2 (e : DEnv) (h : I1 e) : ∃ e', forL 1 (.nm 1) b0_law_right (rangeD 0 6) e = .nx e' ∧ I2 e' := by
  refine for_inv I2 _ _ (fun d _ e he => ?_) ?_
  · obtain ⟨a, b, c1, c4, c5, c6, c7, c8, c9, c10, rfl⟩ := he
    obtain ⟨e2, h1, h2⟩ := body0 a b (.fz d) c4 c5 c6 c7 c8 c9 c10
    exact ⟨[.ow [.int a, .int b], .fz d, .no, .no, c4, c5, c6, c7, c8, c9, c10], e2, by simp [t_nm, Val.cell], h1, h2⟩
  · obtain ⟨a, b, c1, c4, c5, rfl⟩ := h
    exact ⟨_, _, _, _, _, _, _, _, _, _, rfl⟩
theorem heard_of {m : DM Val} {e e' : DEnv} {d : D} {s : Str} (h : m e = .exc ⟨"InvalidLayers", [("value", d)]⟩ e') (hr : gReprD d = some (.str s)) : mHeard h_law_heard m e = .ok (.fz (.tuple [.str s, .bool true, .bool true])) e' := by
  have k1 : hxD h_law_heard ⟨"InvalidLayers", [("value", d)]⟩ (.rep "value") = some (.str s) := by
    show (List.lookup ("value" : Str) [(("value" : Str), d)]).bind gReprD = _
    have : List.lookup ("value" : Str) [(("value" : Str), d)] = some d := rfl
    rw [this]
    exact hr
  have k2 : hxD h_law_heard ⟨"InvalidLayers", [("value", d)]⟩ (.isG "DigError") = some (.bool true) := rfl
  have k3 : hxD h_law_heard ⟨"InvalidLayers", [("value", d)]⟩ (.isT "ValueError") = some (.bool true) := rfl
  have k4 : hxDs h_law_heard ⟨"InvalidLayers", [("value", d)]⟩ h_law_heard.hx = some [.str s, .bool true, .bool true] := by
    show hxDs h_law_heard ⟨"InvalidLayers", [("value", d)]⟩ [.rep "value", .isG "DigError", .isT "ValueError"] = _
    simp only [hxDs, k1, k2, k3]
  unfold mHeard
  rw [h]
  dsimp only
  rw [if_pos ⟨rfl, by decide⟩, k4]
def wrongL : List D := [.int 0, .int 41, .int (-1), .none, .bool true, .str "2", .list [.int 1], .tuple [], .int 100000000000000000000]
theorem wrong_ok {d : D} (h : d ∈ wrongL) : isScr d = false ∧ within d 1 40 = false ∧ ∃ s, gReprD d = some (.str s) ∧ gRepr d = some (.fz (.str s)) := by
  unfold wrongL at h
  simp only [List.mem_cons, List.not_mem_nil, or_false] at h
  rcases h with h | h | h | h | h | h | h | h | h <;> subst h <;> exact ⟨rfl, by decide, PyData.shown _, by unfold gReprD; rw [if_pos (by decide +kernel)], by unfold gRepr; rw [if_pos (by decide +kernel)]⟩
theorem eq_two (s : Str) : gEqP (.list [.tuple [.str s, .bool true, .bool true], .tuple [.str s, .bool true, .bool true]]) (.list [.tuple [.str s, .bool true, .bool true], .tuple [.str s, .bool true, .bool true]]) = some true := by
  simp [gEqP, PyData.plain, PyData.plainAll, shal, PyData.depth, PyData.depthAll, PyData.eqv, PyData.eqvAll]
theorem right_end (e : DEnv) (h : I2 e) : ∃ (a b : Int) (r : DEnv), ((sSeq (sAsg 1 (mCall' f_law_pick.sem [.sl 0, .ex (mFz (mLst (mAll [(mFz (mC (.int 0))), (mFz (mC (.int 41))), (mFz (mOp1 gNeg (.ex (mFz (mC (.int 1)))))), (mFz (mC .none)), (mFz (mC (.bool true))), (mFz (mC (.str "2"))), (mFz (mLst (mAll [(mFz (mC (.int 1)))]))), (mFz (mTup (mAll []))), (mFz (mOp gPowI (.ex (mFz (mC (.int 10)))) (.ex (mFz (mC (.int 20))))))])))]) (.nm 2))
    (sSeq (sAsg 1 (mLst (mAll [(mFz (mHeard h_law_heard (mCall' f_is_link.sem [.ex (mFz (mV 1 2)), .ex (mFz (mTup (mAll [])))])))])) (.nm 3))
    (sSeq (sDrop (mApp' 3 (mFz (mHeard h_law_heard (mCall' f_is_find.sem [.ex (mFz (mV 1 2)), .ex (mFz (mC .none))])))))
    (sSeq (sRet (mBV (mCmp gEqX (.nm 3) (.ex (mFz (mOp gMulX (.ex (mFz (mLst (mAll [(mFz (mTup (mAll [(mFz (mOp1 gRepr (.nm 2))), (mFz (mC (.bool true))), (mFz (mC (.bool true)))])))])))) (.ex (mFz (mC (.int 2))))))))))
    sNx))))) e = .rt (.fz (.bool true)) (.ow [.int a, .int b] :: r) := by
  obtain ⟨a, b, c1, c4, c5, c6, c7, c8, c9, c10, rfl⟩ := h
  obtain ⟨a1, b1, d, z1, m1⟩ := pick_ok a b wrongL (by simp [wrongL]) (by simp [wrongL])
  obtain ⟨w1, w2, s, w3, w4⟩ := wrong_ok m1
  have y1 := link_bad d (.tuple []) w1 w2
  have y2 := find_bad d .none w1 w2
  unfold wrongL at z1
  have k : okPow 10 20 = true := by unfold okPow; exact decide_eq_true ⟨by decide, by decide, by decide⟩
  have h1 : (sAsg 1 (mCall' f_law_pick.sem [.sl 0, .ex (mFz (mLst (mAll [(mFz (mC (.int 0))), (mFz (mC (.int 41))), (mFz (mOp1 gNeg (.ex (mFz (mC (.int 1)))))), (mFz (mC .none)), (mFz (mC (.bool true))), (mFz (mC (.str "2"))), (mFz (mLst (mAll [(mFz (mC (.int 1)))]))), (mFz (mTup (mAll []))), (mFz (mOp gPowI (.ex (mFz (mC (.int 10)))) (.ex (mFz (mC (.int 20))))))])))]) (.nm 2)) [.ow [.int a, .int b], c1, .no, .no, c4, c5, c6, c7, c8, c9, c10] = .nx [.ow [.int a1, .int b1], c1, .fz d, .no, c4, c5, c6, c7, c8, c9, c10] := by
    simp [z1, gPowI, k, slotD, gGtX, gLtX, gLeX, gGeX, gEqX, gIsX, gNotX, gMulX, gAddX, x_run, DL.pad, x_fz, x_ex, x_nm, Opd.now, x_op, x_op1, x_cmp, x_if, x_and, x_or, x_not, x_andV, x_orV, x_bv, x_notV, x_tru, x_all0, x_all, x_tup, x_lst, x_tob, x_c, x_v, x_part0, x_part, x_sl, x_args0, x_argsS, x_argsE, x_argsO, x_call, x_callF, x_callK, x_app, x_vals0, x_vals, s_seq, s_if, s_ret, s_retV, s_nx, s_drop, s_asg, s_par, s_for, x_seqIt, x_rng, t_nm, t_sub, t_tup, t_nil, t_cons, puts, isOw, slotsOk, cellsOf, DL.cellOf, lentOf, backTo', gIx, atI, ixN, gCI, Val.d, Val.cell, gDivmod, Tgts.len, gOr, gOrB, gMulI, gAddI, gSubI, gModI, gDivI, gI, gInt, gNeg, gTru, gSl, gIsi, isScr, isTy, gLen, reord]
  have x1 : (mCall' f_is_link.sem [.ex (mFz (mV 1 2)), .ex (mFz (mTup (mAll [])))]) [.ow [.int a1, .int b1], c1, .fz d, .no, c4, c5, c6, c7, c8, c9, c10] = .exc ⟨"InvalidLayers", [("value", d)]⟩ [.ow [.int a1, .int b1], c1, .fz d, .no, c4, c5, c6, c7, c8, c9, c10] := by
    simp [y1, slotD, gGtX, gLtX, gLeX, gGeX, gEqX, gIsX, gNotX, gMulX, gAddX, x_run, DL.pad, x_fz, x_ex, x_nm, Opd.now, x_op, x_op1, x_cmp, x_if, x_and, x_or, x_not, x_andV, x_orV, x_bv, x_notV, x_tru, x_all0, x_all, x_tup, x_lst, x_tob, x_c, x_v, x_part0, x_part, x_sl, x_args0, x_argsS, x_argsE, x_argsO, x_call, x_callF, x_callK, x_app, x_vals0, x_vals, s_seq, s_if, s_ret, s_retV, s_nx, s_drop, s_asg, s_par, s_for, x_seqIt, x_rng, t_nm, t_sub, t_tup, t_nil, t_cons, puts, isOw, slotsOk, cellsOf, DL.cellOf, lentOf, backTo', gIx, atI, ixN, gCI, Val.d, Val.cell, gDivmod, Tgts.len, gOr, gOrB, gMulI, gAddI, gSubI, gModI, gDivI, gI, gInt, gNeg, gTru, gSl, gIsi, isScr, isTy, gLen, reord]
  have x1' := heard_of x1 w3
  have h2 : (sAsg 1 (mLst (mAll [(mFz (mHeard h_law_heard (mCall' f_is_link.sem [.ex (mFz (mV 1 2)), .ex (mFz (mTup (mAll [])))])))])) (.nm 3)) [.ow [.int a1, .int b1], c1, .fz d, .no, c4, c5, c6, c7, c8, c9, c10] = .nx [.ow [.int a1, .int b1], c1, .fz d, .ow [.tuple [.str s, .bool true, .bool true]], c4, c5, c6, c7, c8, c9, c10] := by
    simp only [s_asg, x_lst, x_all, x_all0, x_fz, x1', t_nm, Val.d, Val.cell]
    rfl
  have x2 : (mCall' f_is_find.sem [.ex (mFz (mV 1 2)), .ex (mFz (mC .none))]) [.ow [.int a1, .int b1], c1, .fz d, .ow [.tuple [.str s, .bool true, .bool true]], c4, c5, c6, c7, c8, c9, c10] = .exc ⟨"InvalidLayers", [("value", d)]⟩ [.ow [.int a1, .int b1], c1, .fz d, .ow [.tuple [.str s, .bool true, .bool true]], c4, c5, c6, c7, c8, c9, c10] := by
    simp [y2, slotD, gGtX, gLtX, gLeX, gGeX, gEqX, gIsX, gNotX, gMulX, gAddX, x_run, DL.pad, x_fz, x_ex, x_nm, Opd.now, x_op, x_op1, x_cmp, x_if, x_and, x_or, x_not, x_andV, x_orV, x_bv, x_notV, x_tru, x_all0, x_all, x_tup, x_lst, x_tob, x_c, x_v, x_part0, x_part, x_sl, x_args0, x_argsS, x_argsE, x_argsO, x_call, x_callF, x_callK, x_app, x_vals0, x_vals, s_seq, s_if, s_ret, s_retV, s_nx, s_drop, s_asg, s_par, s_for, x_seqIt, x_rng, t_nm, t_sub, t_tup, t_nil, t_cons, puts, isOw, slotsOk, cellsOf, DL.cellOf, lentOf, backTo', gIx, atI, ixN, gCI, Val.d, Val.cell, gDivmod, Tgts.len, gOr, gOrB, gMulI, gAddI, gSubI, gModI, gDivI, gI, gInt, gNeg, gTru, gSl, gIsi, isScr, isTy, gLen, reord]
  have x2' := heard_of x2 w3
  have h3 : (sDrop (mApp' 3 (mFz (mHeard h_law_heard (mCall' f_is_find.sem [.ex (mFz (mV 1 2)), .ex (mFz (mC .none))]))))) [.ow [.int a1, .int b1], c1, .fz d, .ow [.tuple [.str s, .bool true, .bool true]], c4, c5, c6, c7, c8, c9, c10] = .nx [.ow [.int a1, .int b1], c1, .fz d, .ow [.tuple [.str s, .bool true, .bool true], .tuple [.str s, .bool true, .bool true]], c4, c5, c6, c7, c8, c9, c10] := by
    simp only [s_drop, x_app, x_fz, x2', Val.d]
    rfl
  have q1 := eq_two s
  have h4 : (sRet (mBV (mCmp gEqX (.nm 3) (.ex (mFz (mOp gMulX (.ex (mFz (mLst (mAll [(mFz (mTup (mAll [(mFz (mOp1 gRepr (.nm 2))), (mFz (mC (.bool true))), (mFz (mC (.bool true)))])))])))) (.ex (mFz (mC (.int 2)))))))))) [.ow [.int a1, .int b1], c1, .fz d, .ow [.tuple [.str s, .bool true, .bool true], .tuple [.str s, .bool true, .bool true]], c4, c5, c6, c7, c8, c9, c10] = .rt (.fz (.bool true)) [.ow [.int a1, .int b1], c1, .fz d, .ow [.tuple [.str s, .bool true, .bool true], .tuple [.str s, .bool true, .bool true]], c4, c5, c6, c7, c8, c9, c10] := by
    have n1 : ∀ x y : List D, gEqN (.list x) (.list y) = none := fun _ _ => rfl
    simp [w4, q1, n1, gRep, slotD, gGtX, gLtX, gLeX, gGeX, gEqX, gIsX, gNotX, gMulX, gAddX, x_run, DL.pad, x_fz, x_ex, x_nm, Opd.now, x_op, x_op1, x_cmp, x_if, x_and, x_or, x_not, x_andV, x_orV, x_bv, x_notV, x_tru, x_all0, x_all, x_tup, x_lst, x_tob, x_c, x_v, x_part0, x_part, x_sl, x_args0, x_argsS, x_argsE, x_argsO, x_call, x_callF, x_callK, x_app, x_vals0, x_vals, s_seq, s_if, s_ret, s_retV, s_nx, s_drop, s_asg, s_par, s_for, x_seqIt, x_rng, t_nm, t_sub, t_tup, t_nil, t_cons, puts, isOw, slotsOk, cellsOf, DL.cellOf, lentOf, backTo', gIx, atI, ixN, gCI, Val.d, Val.cell, gDivmod, Tgts.len, gOr, gOrB, gMulI, gAddI, gSubI, gModI, gDivI, gI, gInt, gNeg, gTru, gSl, gIsi, isScr, isTy, gLen, reord]
  exact ⟨a1, b1, _, by simp only [s_seq, h1, h2, h3, h4]; rfl⟩
theorem right_sem (a b : Int) : ∃ c, f_law_right.sem [.ow [.int a, .int b]] = .ok (.fz (.bool true)) [c] := by
  obtain ⟨e1, z1, i1⟩ := loop1 a b
  obtain ⟨e2, z2, i2⟩ := loop2 e1 i1
  obtain ⟨a3, b3, r, z3⟩ := right_end e2 i2
  refine ⟨.ow [.int a3, .int b3], ?_⟩
  have it : ∀ e : DEnv, mRange1 (.ex (mFz (mC (.int 6)))) e = .ok (rangeD 0 6) e := fun e => by simp [slotD, gGtX, gLtX, gLeX, gGeX, gEqX, gIsX, gNotX, gMulX, gAddX, x_run, DL.pad, x_fz, x_ex, x_nm, Opd.now, x_op, x_op1, x_cmp, x_if, x_and, x_or, x_not, x_andV, x_orV, x_bv, x_notV, x_tru, x_all0, x_all, x_tup, x_lst, x_tob, x_c, x_v, x_part0, x_part, x_sl, x_args0, x_argsS, x_argsE, x_argsO, x_call, x_callF, x_callK, x_app, x_vals0, x_vals, s_seq, s_if, s_ret, s_retV, s_nx, s_drop, s_asg, s_par, s_for, x_seqIt, x_rng, t_nm, t_sub, t_tup, t_nil, t_cons, puts, isOw, slotsOk, cellsOf, DL.cellOf, lentOf, backTo', gIx, atI, ixN, gCI, Val.d, Val.cell, gDivmod, Tgts.len, gOr, gOrB, gMulI, gAddI, gSubI, gModI, gDivI, gI, gInt, gNeg, gTru, gSl, gIsi, isScr, isTy, gLen, reord]
  have m : m_law_right (DL.pad 11 [.ow [.int a, .int b]]) = .rt (.fz (.bool true)) (.ow [.int a3, .int b3] :: r) := by
    show m_law_right [.ow [.int a, .int b], .no, .no, .no, .no, .no, .no, .no, .no, .no, .no] = _
    unfold m_law_right
    rw [s_seq, s_for, it]
    dsimp only
    rw [z1]
    dsimp only
    rw [s_seq, s_for, it]
    dsimp only
    rw [z2]
    dsimp only
    exact z3
  show runF 1 11 m_law_right [.ow [.int a, .int b]] = _
  rw [x_run, if_pos (by rfl), m]
  rfl
theorem scr_len (ns : List Int) : gLen (scD ns) = some (.fz (.int ns.length)) := by
  simp [gLen, scD]
theorem scr_ix (ns : List Int) (k : Nat) (h : k < ns.length) : gIx (scD ns) (.int k) = some (.fz (.int ns[k])) := by
  have : ¬ ((k : Int) < 0) := by omega
  simp [gIx, scD, atI, ixN, h]
theorem pow_1018 : gPowI (.int 10) (.int 18) = some (.fz (.int 1000000000000000000)) := by
  have k : okPow 10 18 = true := by unfold okPow; exact decide_eq_true ⟨by decide, by decide, by decide⟩
  simp [gPowI, gI, k]
theorem pot_mod (e : DEnv) (c : Int) (k : Nat) (h : e[2]? = some (.fz (.int c))) (h1 : e[1]? = some (.fz (.int k))): ∃ b, (mFz (mOp gAddX (.ex (mFz (mOp gModI (.ex (mFz (mOp1 gInt (.ex (mFz (mOp gAddX (.ex (mFz (mOp gAddX (.ex (mFz (mOp gMulX (.ex (mFz (mOp gModI (.ex (mFz (mOp1 gInt (.nm 2)))) (.ex (mFz (mC (.int 2147483549))))))) (.ex (mFz (mC (.int 40597))))))) (.ex (mFz (mOp gMulX (.ex (mFz (mC (.int 841)))) (.nm 1))))))) (.ex (mFz (mC (.int 1663)))))))))) (.ex (mFz (mC (.int 2147483563))))))) (.ex (mFz (mC (.int 1)))))) e = .ok (.int b) e := by
  have p3 : ∀ x : Int, okMul (x % 2147483549) 40597 = true := fun x => by simp [okMul]
  have p4 : okMul 841 k = true := by simp [okMul]
  simp [h, h1, p3, p4, slotD, gGtX, gLtX, gLeX, gGeX, gEqX, gIsX, gNotX, gMulX, gAddX, x_run, DL.pad, x_fz, x_ex, x_nm, Opd.now, x_op, x_op1, x_cmp, x_if, x_and, x_or, x_not, x_andV, x_orV, x_bv, x_notV, x_tru, x_all0, x_all, x_tup, x_lst, x_tob, x_c, x_v, x_part0, x_part, x_sl, x_args0, x_argsS, x_argsE, x_argsO, x_call, x_callF, x_callK, x_app, x_vals0, x_vals, s_seq, s_if, s_ret, s_retV, s_nx, s_drop, s_asg, s_par, s_for, x_seqIt, x_rng, t_nm, t_sub, t_tup, t_nil, t_cons, puts, isOw, slotsOk, cellsOf, DL.cellOf, lentOf, backTo', gCI, Val.d, Val.cell, gDivmod, Tgts.len, gOr, gOrB, gMulI, gAddI, gSubI, gModI, gDivI, gI, gInt, gNeg, gTru, gSl, gIsi, isScr, isTy, reord]
theorem pot_max (e : DEnv) (c : Int) (h : e[2]? = some (.fz (.int c))) : ∃ b, (mFz (mOp gMax2 (.ex (mFz (mC (.int 0)))) (.ex (mFz (mOp gSubI (.nm 2) (.ex (mFz (mOp gPowI (.ex (mFz (mC (.int 10)))) (.ex (mFz (mC (.int 18)))))))))))) e = .ok (.int b) e := by
  obtain ⟨w, m4⟩ : ∃ w, gPowI (.int 10) (.int 18) = some (.fz (.int w)) := ⟨_, pow_1018⟩
  simp [h, gMax2, m4, slotD, gGtX, gLtX, gLeX, gGeX, gEqX, gIsX, gNotX, gMulX, gAddX, x_run, DL.pad, x_fz, x_ex, x_nm, Opd.now, x_op, x_op1, x_cmp, x_if, x_and, x_or, x_not, x_andV, x_orV, x_bv, x_notV, x_tru, x_all0, x_all, x_tup, x_lst, x_tob, x_c, x_v, x_part0, x_part, x_sl, x_args0, x_argsS, x_argsE, x_argsO, x_call, x_callF, x_callK, x_app, x_vals0, x_vals, s_seq, s_if, s_ret, s_retV, s_nx, s_drop, s_asg, s_par, s_for, x_seqIt, x_rng, t_nm, t_sub, t_tup, t_nil, t_cons, puts, isOw, slotsOk, cellsOf, DL.cellOf, lentOf, backTo', gCI, Val.d, Val.cell, gDivmod, Tgts.len, gOr, gOrB, gMulI, gAddI, gSubI, gModI, gDivI, gI, gInt, gNeg, gTru, gSl, gIsi, isScr, isTy, reord]
theorem pot_cell (v : D) (L k : Nat) (e : DEnv) (h0 : e[0]? = some (.fz v)) (h1 : e[1]? = some (.fz (.int k))) (l1 : gLen v = some (.fz (.int L))) (hx : k < L → ∃ x : Int, gIx v (.int k) = some (.fz (.int x))) : ∃ b, (mIf (mCmp gLtX (.nm 1) (.ex (mFz (mOp1 gLen (.nm 0))))) (mOp1 gAbs (.ex (mFz (mOp gIx (.nm 0) (.nm 1))))) (mOp gAddX (.ex (mFz (mOp gMulX (.ex (mFz (mC (.int 1663)))) (.nm 1)))) (.ex (mFz (mC (.int 841)))))) e = .ok (.fz (.int b)) e := by
  have p5 : okMul 1663 k = true := by simp [okMul]
  by_cases h : k < L
  · obtain ⟨x, hx⟩ := hx h
    have h' : (k : Int) < L := by omega
    simp [h0, h1, l1, h', hx, gAbs, p5, slotD, gGtX, gLtX, gLeX, gGeX, gEqX, gIsX, gNotX, gMulX, gAddX, x_run, DL.pad, x_fz, x_ex, x_nm, Opd.now, x_op, x_op1, x_cmp, x_if, x_and, x_or, x_not, x_andV, x_orV, x_bv, x_notV, x_tru, x_all0, x_all, x_tup, x_lst, x_tob, x_c, x_v, x_part0, x_part, x_sl, x_args0, x_argsS, x_argsE, x_argsO, x_call, x_callF, x_callK, x_app, x_vals0, x_vals, s_seq, s_if, s_ret, s_retV, s_nx, s_drop, s_asg, s_par, s_for, x_seqIt, x_rng, t_nm, t_sub, t_tup, t_nil, t_cons, puts, isOw, slotsOk, cellsOf, DL.cellOf, lentOf, backTo', gCI, Val.d, Val.cell, gDivmod, Tgts.len, gOr, gOrB, gMulI, gAddI, gSubI, gModI, gDivI, gI, gInt, gNeg, gTru, gSl, gIsi, isScr, isTy, reord]
  · have h' : ¬ (k : Int) < L := by omega
    simp [h0, h1, l1, h', gAbs, p5, slotD, gGtX, gLtX, gLeX, gGeX, gEqX, gIsX, gNotX, gMulX, gAddX, x_run, DL.pad, x_fz, x_ex, x_nm, Opd.now, x_op, x_op1, x_cmp, x_if, x_and, x_or, x_not, x_andV, x_orV, x_bv, x_notV, x_tru, x_all0, x_all, x_tup, x_lst, x_tob, x_c, x_v, x_part0, x_part, x_sl, x_args0, x_argsS, x_argsE, x_argsO, x_call, x_callF, x_callK, x_app, x_vals0, x_vals, s_seq, s_if, s_ret, s_retV, s_nx, s_drop, s_asg, s_par, s_for, x_seqIt, x_rng, t_nm, t_sub, t_tup, t_nil, t_cons, puts, isOw, slotsOk, cellsOf, DL.cellOf, lentOf, backTo', gCI, Val.d, Val.cell, gDivmod, Tgts.len, gOr, gOrB, gMulI, gAddI, gSubI, gModI, gDivI, gI, gInt, gNeg, gTru, gSl, gIsi, isScr, isTy, reord]
theorem pot_ok (ns : List Int) (k : Nat) : ∃ a b, f_law_pot.sem [.fz (scD ns), .fz (.int k)] = .ok (.ow [.int a, .int b]) [.fz (scD ns), .fz (.int k)] := by
  obtain ⟨c, z1⟩ := pot_cell (scD ns) ns.length k [.fz (scD ns), .fz (.int k), .no] rfl rfl (scr_len ns) fun h => ⟨_, scr_ix ns k h⟩
  obtain ⟨a, z2⟩ := pot_max [.fz (scD ns), .fz (.int k), .fz (.int c)] c rfl
  obtain ⟨b, z3⟩ := pot_mod [.fz (scD ns), .fz (.int k), .fz (.int c)] c k rfl rfl
  generalize scD ns = v at z1 z2 z3
  exact ⟨a, b, by simp [f_law_pot, m_law_pot, x_run, DL.pad, s_seq, s_asg, t_nm, Val.cell, s_ret, x_lst, x_all, x_all0, z1, z2, z3]⟩
/-- the law, if each turn is right -/
theorem law_of (right : ∀ a b : Int, ∃ c, f_law_right.sem [.ow [.int a, .int b]] = .ok (.fz (.bool true)) [c]) (ns : List Int) (_ : ns.length ≤ 63) : ∃ e, f_law.sem [.fz (scD ns)] = .ok (.fz (.bool true)) e := by
  have l1 := scr_len ns
  obtain ⟨m, hm, em⟩ : ∃ m : Nat, m ≤ 4 ∧ (if (if (ns.length : Int) < 4 then (ns.length : Int) else 4) > 1 then (if (ns.length : Int) < 4 then (ns.length : Int) else 4) else 1) = (m : Int) := by
    by_cases c : (ns.length : Int) < 4
    · by_cases c2 : (ns.length : Int) > 1
      · exact ⟨ns.length, by omega, by simp [c, c2]⟩
      · exact ⟨1, by omega, by simp [c, c2]⟩
    · exact ⟨4, by omega, by simp [c]⟩
  have it : mRange1 (.ex (mFz (mOp gMax2 (.ex (mFz (mC (.int 1)))) (.ex (mFz (mOp gMin2 (.ex (mFz (mC (.int 4)))) (.ex (mFz (mOp1 gLen (.nm 0)))))))))) [.fz (scD ns), .no] = .ok (rangeD 0 m) [.fz (scD ns), .no] := by
    have em' : (if 1 < (if (ns.length : Int) < 4 then (ns.length : Int) else 4) then (if (ns.length : Int) < 4 then (ns.length : Int) else 4) else 1) = (m : Int) := em
    have c1 : -4611686018427387904 ≤ (m : Int) := by omega
    have c2 : (m : Int) < 4611686018427387904 := by omega
    generalize scD ns = v at l1
    simp [l1, gMax2, gMin2, em', c1, c2, slotD, gGtX, gLtX, gLeX, gGeX, gEqX, gIsX, gNotX, gMulX, gAddX, x_run, DL.pad, x_fz, x_ex, x_nm, Opd.now, x_op, x_op1, x_cmp, x_if, x_and, x_or, x_not, x_andV, x_orV, x_bv, x_notV, x_tru, x_all0, x_all, x_tup, x_lst, x_tob, x_c, x_v, x_part0, x_part, x_sl, x_args0, x_argsS, x_argsE, x_argsO, x_call, x_callF, x_callK, x_app, x_vals0, x_vals, s_seq, s_if, s_ret, s_retV, s_nx, s_drop, s_asg, s_par, s_for, x_seqIt, x_rng, t_nm, t_sub, t_tup, t_nil, t_cons, puts, isOw, slotsOk, cellsOf, DL.cellOf, lentOf, backTo', gCI, Val.d, Val.cell, gDivmod, Tgts.len, gOr, gOrB, gMulI, gAddI, gSubI, gModI, gDivI, gI, gInt, gNeg, gTru, gSl, gIsi, isScr, isTy, reord]
  have cp := comp_pure (k := 1) (cond := mYes) (elt := mFz (mCall' f_law_right.sem [.own (mCall' f_law_pot.sem [.ex (mFz (mV 1 0)), .ex (mFz (mV 1 1))])])) (f := fun _ => true) (g := fun _ => PyData.bool true) it rfl (by unfold rangeD; simp; omega) (fun d hd => rfl) (fun d hd _ => by
    unfold rangeD at hd
    obtain ⟨k, hk, rfl⟩ := List.mem_map.mp hd
    have hk' := List.mem_range.mp hk
    rw [Int.zero_add]
    obtain ⟨a, b, z⟩ := pot_ok ns k
    obtain ⟨c, z2⟩ := right a b
    generalize scD ns = v at z
    simp [z, z2, slotD, gGtX, gLtX, gLeX, gGeX, gEqX, gIsX, gNotX, gMulX, gAddX, x_run, DL.pad, x_fz, x_ex, x_nm, Opd.now, x_op, x_op1, x_cmp, x_if, x_and, x_or, x_not, x_andV, x_orV, x_bv, x_notV, x_tru, x_all0, x_all, x_tup, x_lst, x_tob, x_c, x_v, x_part0, x_part, x_sl, x_args0, x_argsS, x_argsE, x_argsO, x_call, x_callF, x_callK, x_app, x_vals0, x_vals, s_seq, s_if, s_ret, s_retV, s_nx, s_drop, s_asg, s_par, s_for, x_seqIt, x_rng, t_nm, t_sub, t_tup, t_nil, t_cons, puts, isOw, slotsOk, cellsOf, DL.cellOf, lentOf, backTo', gCI, Val.d, Val.cell, gDivmod, Tgts.len, gOr, gOrB, gMulI, gAddI, gSubI, gModI, gDivI, gI, gInt, gNeg, gTru, gSl, gIsi, isScr, isTy, reord])
  rw [List.filter_eq_self.mpr (fun _ _ => rfl)] at cp
  have c2 := bools_of (fun _ : D => true) (rangeD 0 m)
  have c3 : ((rangeD 0 m).map fun _ => true).all id = true := by simp
  generalize scD ns = v at cp
  simp [f_law, m_law, cp, gAll, c2, c3, slotD, gGtX, gLtX, gLeX, gGeX, gEqX, gIsX, gNotX, gMulX, gAddX, x_run, DL.pad, x_fz, x_ex, x_nm, Opd.now, x_op, x_op1, x_cmp, x_if, x_and, x_or, x_not, x_andV, x_orV, x_bv, x_notV, x_tru, x_all0, x_all, x_tup, x_lst, x_tob, x_c, x_v, x_part0, x_part, x_sl, x_args0, x_argsS, x_argsE, x_argsO, x_call, x_callF, x_callK, x_app, x_vals0, x_vals, s_seq, s_if, s_ret, s_retV, s_nx, s_drop, s_asg, s_par, s_for, x_seqIt, x_rng, t_nm, t_sub, t_tup, t_nil, t_cons, puts, isOw, slotsOk, cellsOf, DL.cellOf, lentOf, backTo', gCI, Val.d, Val.cell, gDivmod, Tgts.len, gOr, gOrB, gMulI, gAddI, gSubI, gModI, gDivI, gI, gInt, gNeg, gTru, gSl, gIsi, isScr, isTy, reord]
theorem law_sem (ns : List Int) (h : ns.length ≤ 63) : ∃ e, f_law.sem [.fz (scD ns)] = .ok (.fz (.bool true)) e := law_of right_sem ns h
end K10

set_option maxHeartbeats 0
open PySem PySem.W PySem.Calls PyProof.Rows
theorem PySem.Challenge.cw_datedlayers_k10_any_values_as_numbers_li_holds : PySem.Challenge.rw_datedlayers_k10_any_values_as_numbers_li.Holds := by
  w_on; o_law
  refine HandSHeadRun.head_any (r := OpenLaw.row PySem.Challenge.rw_datedlayers_k10_any_values_as_numbers_li) (q := view (OpenLaw.row PySem.Challenge.rw_datedlayers_k10_any_values_as_numbers_li).prog [32]) (H := K10.hk) (ob := K10.ob) (M := 3000) (loose := K10.loose)
    (d := HandSHeadRun.topDef (OpenLaw.row PySem.Challenge.rw_datedlayers_k10_any_values_as_numbers_li).prog 32) (kwd := []) K10.ob_eq (by kernel_rfl) (fun s => by kernel_rfl) K10.run (by kernel_rfl) (by kernel_rfl) (by kernel_rfl) (by rfl) (by first | assumption | decide +kernel) (by decide +kernel) ⟨rfl, rfl, rfl, rfl, rfl, by decide +kernel⟩ ?hw ?hc
  case hw => w_witness2
  case hc =>
    refine DL.law_walkT (l := PySem.Challenge.rw_datedlayers_k10_any_values_as_numbers_li) (n := 63) (k := K10.f_law.lv) (x := "script") rfl (by decide) (by kernel_rfl) ⟨rfl, by decide, by decide⟩ ?F
    intro w mg fa h Y G hmg0
    obtain ⟨K, KX, c⟩ := Y
    have hmg : mg ("law" : PySem.Str) = some (.ref fa) := by
      have e : (HandSHeadRun.topDef (OpenLaw.row PySem.Challenge.rw_datedlayers_k10_any_values_as_numbers_li).prog 32).name = ("law" : PySem.Str) := by kernel_rfl
      rw [← e]
      exact hmg0
    obtain ⟨f, fd, g1, g2, g3, g4, g5, g6⟩ := K10.r_law (P := (PySem.Challenge.rw_datedlayers_k10_any_values_as_numbers_li).prog) (w := w) KX G c
    rw [hmg] at g1
    cases g1
    refine ⟨K, fd, K10.f_law.sem, K10.Tk K, K10.tfs.map (He.cT K), KX, fun p hp => ?_, fun p hp => ?_, fun p hp => ?_, fun t ht => ?_, fun s u => g5 s [u] rfl, fun ns h1 _ => K10.law_sem ns h1, fun base _ _ hB => g6 base hB⟩
    · obtain ⟨q, hq, rfl⟩ := List.mem_map.mp hp
      exact c.empty q hq
    · obtain ⟨q, hq, rfl⟩ := List.mem_map.mp hp
      exact c.out q hq
    · obtain ⟨q, hq, rfl⟩ := List.mem_map.mp hp
      exact PySem.W.codeHd_of_K KX (c.hd q hq)
    · simp only [K10.Tk, K10.tfs, List.mem_cons, List.not_mem_nil, or_false, List.map_cons, List.map_nil] at ht ⊢
      exact ⟨_, rfl, by rw [ht]⟩
