import PyProof.Rows.All
import Wide.All
import OpenK.AllK
import Wide.FinOn
import HandS.ForMost
import HandS.ForExc
import HandS.Style
import HandS.SortInts
import HandS.IsInst
import HandS.Wide
import HandS.Flow
import HandS.WideMore
import HandS.Walk
import HandS.Evl
import HandS.Defaults
import PyProof.Rows.StrMul
import PyProof.StrBlock2
import KE.KStateDown
import Lean
import HandS.Base
import HandS.Call
import HandS.Ends
import HandS.More
import HandS.Words
import HandS.WordsExc
import HandS.Head0
import HandS.Head1
import HandS.Head2
import HandS.HeadEnd
import HandS.HeadHook1
import HandS.HeadHook2
import PySem.Challenge.RW_smallparts_k33_sums_told
set_option Elab.async false
set_option linter.all false
set_option maxRecDepth 100000
set_option maxHeartbeats 4000000
namespace Px
open PySem L2

/-! ### forgetting what is no longer needed -/
def flat : HO → Prop
  | .dT _ => False
  | .frz _ u => flat u
  | _ => True
class Nod (H : Hp) : Prop where
  nod : ∀ a o, H a = some o → flat o
theorem nod_upd {H : Hp} {p : Addr} {o : HO} (n : Nod H) (f : flat o) : Nod (upd H p o) := ⟨fun a u e => by
  by_cases h : a = p
  · subst h
    rw [upd_same] at e
    cases e
    exact f
  · rw [upd_ne h] at e
    exact n.nod a u e⟩
instance nod_lst {H : Hp} {p : Addr} {xs : List V} [n : Nod H] : Nod (upd H p (.lst xs)) := nod_upd n trivial
instance nod_tup {H : Hp} {p : Addr} {xs : List V} [n : Nod H] : Nod (upd H p (.tup xs)) := nod_upd n trivial
instance nod_dK {H : Hp} {p : Addr} {xs : List (Key × V)} [n : Nod H] : Nod (upd H p (.dK xs)) := nod_upd n trivial
instance nod_ins {H : Hp} {p C dx : Addr} {fs : List (Str × V)} [n : Nod H] : Nod (upd H p (.ins C dx fs)) := nod_upd n trivial
instance nod_own {H : Hp} {p x : Addr} [n : Nod H] : Nod (upd H p (.own x)) := nod_upd n trivial
theorem nod_only {H : Hp} (h : Only H) : Nod H := ⟨fun a o e => by
  rcases h a with z | ⟨ob, xs, z⟩
  · rw [z] at e; cases e
  · rw [z] at e; cases e; trivial⟩

/-- all that was tracked is as it was -/
def Ex (H H' : Hp) : Prop := ∀ a o, H a = some o → H' a = some o
theorem ex_refl {H : Hp} : Ex H H := fun _ _ h => h
theorem ex_trans {H H1 H2 : Hp} (a : Ex H H1) (b : Ex H1 H2) : Ex H H2 := fun x o h => b x o (a x o h)
theorem ex_upd {H H' : Hp} {p : Addr} {o : HO} (h : H p = none) (e : Ex H H') : Ex H (upd H' p o) := fun a u ha => by
  rw [upd_ne (ne_of_none ha h)]
  exact e a u ha
theorem ex_new {H : Hp} {p : Addr} {o : HO} (h : H p = none) : Ex H (upd H p o) := ex_upd h ex_refl
theorem ex_none {H H' : Hp} {p : Addr} (e : Ex H H') (h : H' p = none) : H p = none := by
  cases q : H p with
  | none => rfl
  | some o => rw [e p o q] at h; cases h
theorem none_upd {H : Hp} {p q : Addr} {o : HO} (h : upd H q o p = none) : H p = none ∧ p ≠ q := by
  by_cases e : p = q
  · subst e; rw [upd_same] at h; cases h
  · rw [upd_ne e] at h; exact ⟨h, e⟩
theorem ex_sq {K : PySem.W.Frag} {H H' : Hp} {a : Addr} {xs : List V} (e : Ex H H') (h : SqL K H a xs) : SqL K H' a xs := by
  rcases h with (h | ⟨o, h⟩) | h
  · exact .inl (.inl (e _ _ h))
  · exact .inl (.inr ⟨o, e _ _ h⟩)
  · exact .inr h
theorem ex_sqt {K : PySem.W.Frag} {H H' : Hp} {a : Addr} {xs : List V} (e : Ex H H') (h : SqT K H a xs) : SqT K H' a xs := by
  rcases h with (h | ⟨o, h⟩) | h
  · exact .inl (.inl (e _ _ h))
  · exact .inl (.inr ⟨o, e _ _ h⟩)
  · exact .inr h
theorem sq_new {K : PySem.W.Frag} {H : Hp} {a p : Addr} {xs : List V} {o : HO} (hp : H p = none) (h : SqL K H a xs) : SqL K (upd H p o) a xs := ex_sq (ex_new hp) h
theorem sq_ne {K : PySem.W.Frag} {H : Hp} {a p : Addr} {xs : List V} {o : HO} (hp : a ≠ p) (h : SqL K H a xs) : SqL K (upd H p o) a xs := by
  rcases h with (h | ⟨ob, h⟩) | h
  · exact .inl (.inl (by rw [upd_ne hp]; exact h))
  · exact .inl (.inr ⟨ob, by rw [upd_ne hp]; exact h⟩)
  · exact .inr h
theorem sq_at {K : PySem.W.Frag} {H : Hp} {a : Addr} {xs : List V} (h : H a = some (.lst xs)) : SqL K H a xs := .inl (.inl h)
theorem st_at {K : PySem.W.Frag} {H : Hp} {a : Addr} {xs : List V} (h : H a = some (.tup xs)) : SqT K H a xs := .inl (.inl h)
theorem sq_up {K : PySem.W.Frag} {H : Hp} {a : Addr} {xs : List V} : SqL K (upd H a (.lst xs)) a xs := sq_at upd_same

structure Fg (H H' H'' : Hp) : Prop where
  sub : ∀ a o, H'' a = some o → H' a = some o
  old : ∀ a o, H a = some o → H'' a = H' a
  own : ∀ a x, H a = some (.own x) → H' a = some (.own x)
  ins : ∀ a C dx fs, H'' a = some (.ins C dx fs) → ∃ fs', H a = some (.ins C dx fs')
  frz : ∀ a o u, H'' a = some (.frz o u) → H a = some (.frz o u)
  nod : ∀ a o, H'' a = some o → flat o
theorem ok_keep {P : Program} {w : World} {H H' H'' : Hp} {h h' : Heap} {a : Addr} {u : HO} (f : flat u) (x : ObjOk P w H h a u) (y : ObjOk P w H' h' a u) (k : ∀ b z, H b = some (.own z) → H'' b = some (.own z)) : ObjOk P w H'' h' a u := by
  induction u with
  | ins C dx fs =>
    obtain ⟨d, _⟩ := x
    obtain ⟨_, r⟩ := y
    exact ⟨k _ _ d, r⟩
  | dT kvs => exact f.elim
  | frz ob u ih =>
    obtain ⟨_, x2⟩ := x
    obtain ⟨y1, y2⟩ := y
    exact ⟨y1, ih f x2 y2⟩
  | lst xs => obtain ⟨z, its, m, r, e⟩ := y; exact ⟨z, its, m, r, e⟩
  | tup xs => obtain ⟨z, its, r, ob, e, c⟩ := y; exact ⟨z, its, r, ob, e, c⟩
  | dK kvs => obtain ⟨z, w1, vs, r, ob, es, ep, e, c⟩ := y; exact ⟨z, w1, vs, r, ob, es, ep, e, c⟩
  | set S m => obtain ⟨ob, es, ep, t, e, c⟩ := y; exact ⟨ob, es, ep, t, e, c⟩
  | own z => obtain ⟨ob, e⟩ := y; exact ⟨ob, e⟩
  | xd fs => obtain ⟨mA, ⟨od, es, ep, e, c⟩, r⟩ := y; exact ⟨mA, ⟨od, es, ep, e, c⟩, r⟩
  | met g z => have e : h'.get? a = some (PySem.W.methodObj (.ref g) (.ref z)) := y; show h'.get? a = some (PySem.W.methodObj (.ref g) (.ref z)); exact e
  | rng lo hi => obtain ⟨t, u, v, e⟩ := y; exact ⟨t, u, v, e⟩
  | tbl ps => have e : h'.get? a = some { cls := .none, data := .fields ps } := y; show h'.get? a = some { cls := .none, data := .fields ps }; exact e
  | ext p => obtain ⟨q, ⟨o, e⟩, st⟩ := y; exact ⟨q, ⟨o, e⟩, st⟩
theorem ok_plain {P : Program} {w : World} {H' H'' : Hp} {h' : Heap} {a : Addr} {u : HO} (f : flat u) (n1 : ∀ C dx fs, u ≠ .ins C dx fs) (n2 : ∀ ob v, u ≠ .frz ob v) (y : ObjOk P w H' h' a u) : ObjOk P w H'' h' a u := by
  cases u with
  | ins C dx fs => exact absurd rfl (n1 C dx fs)
  | dT kvs => exact f.elim
  | frz ob u => exact absurd rfl (n2 ob u)
  | lst xs => obtain ⟨z, its, m, r, e⟩ := y; exact ⟨z, its, m, r, e⟩
  | tup xs => obtain ⟨z, its, r, ob, e, c⟩ := y; exact ⟨z, its, r, ob, e, c⟩
  | dK kvs => obtain ⟨z, w1, vs, r, ob, es, ep, e, c⟩ := y; exact ⟨z, w1, vs, r, ob, es, ep, e, c⟩
  | set S m => obtain ⟨ob, es, ep, t, e, c⟩ := y; exact ⟨ob, es, ep, t, e, c⟩
  | own z => obtain ⟨ob, e⟩ := y; exact ⟨ob, e⟩
  | xd fs => obtain ⟨mA, ⟨od, es, ep, e, c⟩, r⟩ := y; exact ⟨mA, ⟨od, es, ep, e, c⟩, r⟩
  | met g z => have e : h'.get? a = some (PySem.W.methodObj (.ref g) (.ref z)) := y; show h'.get? a = some (PySem.W.methodObj (.ref g) (.ref z)); exact e
  | rng lo hi => obtain ⟨t, u, v, e⟩ := y; exact ⟨t, u, v, e⟩
  | tbl ps => have e : h'.get? a = some { cls := .none, data := .fields ps } := y; show h'.get? a = some { cls := .none, data := .fields ps }; exact e
  | ext p => obtain ⟨q, ⟨o, e⟩, st⟩ := y; exact ⟨q, ⟨o, e⟩, st⟩
theorem fg_ok {P : Program} {w : World} {H H' H'' : Hp} {h h' : Heap} (x : HOk P w H h) (y : HOk P w H' h') (f : Fg H H' H'') : HOk P w H'' h' := fun a o e => by
  have ko : ∀ b z, H b = some (.own z) → H'' b = some (.own z) := fun b z q => (f.old b _ q).trans (f.own b z q)
  have y1 := y a o (f.sub a o e)
  have fl := f.nod a o e
  by_cases hi : ∃ C dx fs, o = .ins C dx fs
  · obtain ⟨C, dx, fs, rfl⟩ := hi
    obtain ⟨fs', q⟩ := f.ins a C dx fs e
    obtain ⟨d, _⟩ := x a _ q
    obtain ⟨_, r⟩ := y1
    exact ⟨ko _ _ d, r⟩
  · by_cases hf : ∃ ob u, o = .frz ob u
    · obtain ⟨ob, u, rfl⟩ := hf
      exact ok_keep fl (x a _ (f.frz a ob u e)) y1 ko
    · exact ok_plain fl (fun C dx fs z => hi ⟨C, dx, fs, z⟩) (fun ob u z => hf ⟨ob, u, z⟩) y1
theorem fg_none {H H' H'' : Hp} (f : Fg H H' H'') {a : Addr} (h : H' a = none) : H'' a = none := by
  cases q : H'' a with
  | none => rfl
  | some o => rw [f.sub a o q] at h; cases h
theorem inv_fg {X : Cx} {pins pins' : List (Addr × Obj)} {σ σ' : L2.St} {H H' H'' : Hp} {s s' : Shared} (I : Inv X pins σ H s) (J : Inv X pins' σ' H' s') (f : Fg H H' H'') : Inv X pins' σ' H'' s' where
  ok := J.ok
  os := J.os
  bare := J.bare
  base := {
    keep := J.base.keep
    slot := J.base.slot
    free := fun b o q n hx => fg_none f (J.base.free b o q n hx)
    there := J.base.there
    tups := fun b xs q => (f.old b _ (I.base.tups b xs q)).trans (J.base.tups b xs q)
    frzs := fun b o u q => (f.old b _ (I.base.frzs b o u q)).trans (J.base.frzs b o u q)
    tbls := fun b ps q => by
      obtain ⟨m1, e1⟩ := I.base.tbls b ps q
      obtain ⟨m2, e2⟩ := J.base.tbls b ps q
      exact ⟨m2, (f.old b _ e1).trans e2⟩ }
  loc := J.loc
  cell := J.cell
  free := fg_none f J.free
  freeC := fun x c e => fg_none f (J.freeC x c e)
  pin := fun p hp => by
    obtain ⟨a, b, c, d, e⟩ := J.pin p hp
    exact ⟨a, fg_none f b, c, d, e⟩
  hok := fg_ok I.hok J.hok f
  len := J.len

theorem fg_same {H H' : Hp} [n : Nod H] (e : Ex H H') : Fg H H' H :=
  ⟨e, fun a o h => h.trans (e a o h).symm, fun a x h => e a _ h, fun a C dx fs h => ⟨fs, h⟩, fun a o u h => h, n.nod⟩
def fresh : HO → Prop
  | .lst _ => True
  | .tup _ => True
  | .dK _ => True
  | _ => False
theorem fresh_flat {o : HO} (h : fresh o) : flat o := by
  cases o with
  | dT kvs => exact (show False from h).elim
  | frz ob u => exact (show False from h).elim
  | lst xs => trivial
  | tup xs => trivial
  | dK kvs => trivial
  | set S n => trivial
  | own z => trivial
  | xd fs => trivial
  | met f z => trivial
  | rng lo hi => trivial
  | tbl ps => trivial
  | ext p => trivial
  | ins C dx fs => trivial
/-- what is kept: all of H but at S, and the new or changed ones L -/
theorem fg_gen {H H' H'' : Hp} [n : Nod H] (S : Addr → Prop) (k : ∀ a o, H a = some o → ¬ S a → H' a = some o ∧ H'' a = some o) (s : ∀ a, S a → ∃ o, fresh o ∧ H' a = some o ∧ H'' a = some o ∧ ∀ u, H a = some u → fresh u) (c : ∀ a, H a = none → ¬ S a → H'' a = none) : Fg H H' H'' where
  sub := fun a o e => by
    by_cases h : S a
    · obtain ⟨u, _, h1, h2, _⟩ := s a h
      rw [h2] at e; rw [h1]; exact e
    · cases q : H a with
      | none => rw [c a q h] at e; cases e
      | some u =>
        obtain ⟨h1, h2⟩ := k a u q h
        rw [h2] at e; rw [h1]; exact e
  old := fun a o e => by
    by_cases h : S a
    · obtain ⟨u, _, h1, h2, _⟩ := s a h
      rw [h1, h2]
    · obtain ⟨h1, h2⟩ := k a o e h
      rw [h1, h2]
  own := fun a x e => by
    by_cases h : S a
    · obtain ⟨u, _, h1, h2, h3⟩ := s a h
      exact (h3 _ e).elim
    · exact (k a _ e h).1
  ins := fun a C dx fs e => by
    by_cases h : S a
    · obtain ⟨u, f, h1, h2, h3⟩ := s a h
      rw [h2] at e; cases e; exact f.elim
    · cases q : H a with
      | none => rw [c a q h] at e; cases e
      | some u =>
        obtain ⟨h1, h2⟩ := k a u q h
        rw [h2] at e; cases e; exact ⟨_, rfl⟩
  frz := fun a o w e => by
    by_cases h : S a
    · obtain ⟨u, f, h1, h2, h3⟩ := s a h
      rw [h2] at e; cases e; exact f.elim
    · cases q : H a with
      | none => rw [c a q h] at e; cases e
      | some u =>
        obtain ⟨h1, h2⟩ := k a u q h
        rw [h2] at e; cases e; rfl
  nod := fun a o e => by
    by_cases h : S a
    · obtain ⟨u, f, h1, h2, h3⟩ := s a h
      rw [h2] at e; cases e; exact fresh_flat f
    · cases q : H a with
      | none => rw [c a q h] at e; cases e
      | some u =>
        obtain ⟨h1, h2⟩ := k a u q h
        rw [h2] at e; cases e; exact n.nod a _ q
/-- one new or changed thing -/
theorem fg_one {H H' : Hp} {p : Addr} {o : HO} [n : Nod H] (f : fresh o) (hp : ∀ u, H p = some u → fresh u) (e : ∀ a u, a ≠ p → H a = some u → H' a = some u) (h : H' p = some o) : Fg H H' (upd H p o) :=
  fg_gen (fun a => a = p) (fun a u q ne => ⟨e a u ne q, by rw [upd_ne ne]; exact q⟩) (fun a q => by subst q; exact ⟨o, f, h, upd_same, hp⟩) (fun a q ne => by rw [upd_ne ne]; exact q)
theorem fg_new {H H' : Hp} {p : Addr} {o : HO} [n : Nod H] (f : fresh o) (hp : H p = none) (e : Ex H H') (h : H' p = some o) : Fg H H' (upd H p o) :=
  fg_one f (fun u q => by rw [hp] at q; cases q) (fun a u _ q => e a u q) h
theorem fg_mut {H H' : Hp} {p : Addr} {xs : List V} {o : HO} [n : Nod H] (f : fresh o) (hp : H p = some (.lst xs)) (e : ∀ a u, a ≠ p → H a = some u → H' a = some u) (h : H' p = some o) : Fg H H' (upd H p o) :=
  fg_one f (fun u q => by rw [hp] at q; cases q; trivial) e h
theorem fg_mut_new {H H' : Hp} {l p : Addr} {xs : List V} {o u : HO} [n : Nod H] (f : fresh o) (g : fresh u) (hl : H l = some (.lst xs)) (hp : H p = none) (e : ∀ a u, a ≠ l → H a = some u → H' a = some u) (h : H' l = some o) (h2 : H' p = some u) : Fg H H' (upd (upd H l o) p u) := by
  have ne : l ≠ p := ne_of_none hl hp
  refine fg_gen (fun a => a = l ∨ a = p) (fun a w q z => ?_) (fun a z => ?_) (fun a q z => ?_)
  · have z1 : a ≠ l := fun y => z (.inl y)
    have z2 : a ≠ p := fun y => z (.inr y)
    exact ⟨e a w z1 q, by rw [upd_ne z2, upd_ne z1]; exact q⟩
  · rcases z with rfl | rfl
    · exact ⟨o, f, h, by rw [upd_ne ne, upd_same], fun w q => by rw [hl] at q; cases q; trivial⟩
    · exact ⟨u, g, h2, upd_same, fun w q => by rw [hp] at q; cases q⟩
  · have z1 : a ≠ l := fun y => z (.inl y)
    have z2 : a ≠ p := fun y => z (.inr y)
    rw [upd_ne z2, upd_ne z1]; exact q

section
variable {X : Cx} {e : Expr} {es : List Expr} {st : Stmt} {sts : List Stmt}
def tFg (t : TE) : TE := fun σ H Q => t σ H fun v H' => ∃ H'', Fg H H' H'' ∧ Q v H''
def bFg (t : TT) : TT := fun σ H Q => t σ H fun v H' => ∃ H'', Fg H H' H'' ∧ Q v H''
def sFg (t : TS) : TS := fun D σ H => t { nx := fun σ' H' => ∃ H'', Fg H H' H'' ∧ D.nx σ' H'', rt := fun v H' => ∃ H'', Fg H H' H'' ∧ D.rt v H'', bk := fun σ' H' => ∃ H'', Fg H H' H'' ∧ D.bk σ' H'', ct := fun σ' H' => ∃ H'', Fg H H' H'' ∧ D.ct σ' H'' } σ H
theorem pe_fg {t : TE} (h : PE X e t) : PE X e (tFg t) := ⟨fun pins s σ H Q I q => by
  refine wpAny_mono (h.run pins s σ H _ I q) (fun u s' z => ?_) fun _ _ z => z
  obtain ⟨v, H', J, r, H'', f, qq⟩ := z
  exact ⟨v, H'', inv_fg I J f, r, qq⟩⟩
theorem pt_fg {t : TT} (h : PT X e t) : PT X e (bFg t) := ⟨fun pins s σ H Q I q => by
  refine wpAny_mono (h.run pins s σ H _ I q) (fun u s' z => ?_) fun _ _ z => z
  obtain ⟨H', J, H'', f, qq⟩ := z
  exact ⟨H'', inv_fg I J f, qq⟩⟩
theorem sp_fg {pins : List (Addr × Obj)} {σ : L2.St} {H : Hp} {s s' : Shared} {D : Ends} {f : Flow} (I : Inv X pins σ H s)
    (z : SP X pins { nx := fun σ' H' => ∃ H'', Fg H H' H'' ∧ D.nx σ' H'', rt := fun v H' => ∃ H'', Fg H H' H'' ∧ D.rt v H'', bk := fun σ' H' => ∃ H'', Fg H H' H'' ∧ D.bk σ' H'', ct := fun σ' H' => ∃ H'', Fg H H' H'' ∧ D.ct σ' H'' } f s') : SP X pins D f s' := by
  cases f with
  | next => obtain ⟨σ', H', J, H'', g, q⟩ := z; exact ⟨σ', H'', inv_fg I J g, q⟩
  | ret v => obtain ⟨x, σ', H', J, r, H'', g, q⟩ := z; exact ⟨x, σ', H'', inv_fg I J g, r, q⟩
  | brk => obtain ⟨σ', H', J, H'', g, q⟩ := z; exact ⟨σ', H'', inv_fg I J g, q⟩
  | cont => obtain ⟨σ', H', J, H'', g, q⟩ := z; exact ⟨σ', H'', inv_fg I J g, q⟩
theorem ps_fg {t : TS} (h : PS X st t) : PS X st (sFg t) := ⟨fun pins s σ H D I q => wpAny_mono (h.run pins s σ H _ I q) (fun _ _ z => sp_fg I z) fun _ _ z => z⟩
theorem pss_fg {t : TS} (h : PSs X sts t) : PSs X sts (sFg t) := ⟨fun pins s σ H D I q => wpAny_mono (h.run pins s σ H _ I q) (fun _ _ z => sp_fg I z) fun _ _ z => z⟩
end
end Px
set_option Elab.async false
set_option linter.all false
set_option maxRecDepth 100000
set_option maxHeartbeats 4000000
namespace Px
open PySem L2

/-! ### the operators by short names -/
abbrev oAdd : R2 := rI0 fun i j => .int (i + j)
abbrev oSub : R2 := rI0 fun i j => .int (i - j)
abbrev oMul : R2 := rI CMulW fun i j => .int (i * j)
abbrev oDiv : R2 := rI CDivW fun i j => .int (i / j)
abbrev oMod : R2 := rI (fun _ j => 0 < j) fun i j => .int (i % j)
abbrev oPow : R2 := rI CPow fun i j => .int (i ^ j.toNat)
abbrev oLt : R2 := rI0 fun i j => .bl (decide (i < j))
abbrev oLe : R2 := rI0 fun i j => .bl (decide (i ≤ j))
abbrev oGt : R2 := rI0 fun i j => .bl (decide (j < i))
abbrev oGe : R2 := rI0 fun i j => .bl (decide (j ≤ i))
abbrev oIsN : R2 := fun x y H Q => y = .non ∧ Q (.bl (decide (x = .non))) H
abbrev oNotN : R2 := fun x y H Q => y = .non ∧ Q (.bl (!decide (x = .non))) H
abbrev oCatS : R2 := fun x y H Q => ∃ i j, x = .str i ∧ y = .str j ∧ i.length + j.length ≤ sizeLine ∧ Q (.str (i ++ j)) H
abbrev uNeg : V → Hp → VK → Prop := rU fun i => .int (-i)
abbrev cLen (K : PySem.W.Frag) : List V → Hp → VK → Prop := fun xs H Q => ∃ p ys, xs = [.ref p] ∧ (SqL K H p ys ∨ SqT K H p ys) ∧ Q (.int ys.length) H
abbrev cLenS : List V → Hp → VK → Prop := fun xs H Q => ∃ z, xs = [.str z] ∧ z.length ≤ sizeLine ∧ Q (.int z.length) H
abbrev cInt : List V → Hp → VK → Prop := fun xs H Q => (∃ i, xs = [.int i] ∧ Q (.int i) H) ∨ ∃ k, xs = [.bl k] ∧ Q (.int (if k then 1 else 0)) H
abbrev cIntS : List V → Hp → VK → Prop := fun xs H Q => ∃ a n, xs = [.str a] ∧ PySem.intText? a = some n ∧ a.length ≤ 640 ∧ Q (.int n) H
abbrev cStr : List V → Hp → VK → Prop := fun xs H Q => ∃ i, xs = [.int i] ∧ i.natAbs.log2 < 1920 ∧ Q (.str (toString i)) H
abbrev cAbs : List V → Hp → VK → Prop := fun xs H Q => ∃ i, xs = [.int i] ∧ Q (.int (if i < 0 then -i else i)) H
abbrev cMax : List V → Hp → VK → Prop := fun xs H Q => ∃ i j, xs = [.int i, .int j] ∧ Q (.int (if j > i then j else i)) H
abbrev cMin : List V → Hp → VK → Prop := fun xs H Q => ∃ i j, xs = [.int i, .int j] ∧ Q (.int (if j < i then j else i)) H
abbrev cList (K : PySem.W.Frag) : List V → Hp → VK → Prop := fun xs H Q => ∃ p ys, xs = [.ref p] ∧ (SqL K H p ys ∨ SqT K H p ys) ∧ ∀ l, H l = none → Q (.ref l) (upd H l (.lst ys))
/-- x *= e, x //= e -/
def ipC (C : Int → Int → Prop) (f : Int → Int → Int) : TIp := fun x y H Q => ∃ i j, x = .int i ∧ y = .int j ∧ C i j ∧ Q (.int (f i j)) H
section
variable {X : Cx}
theorem ip_mul : PIp X .Mult (ipC CMulW fun i j => i * j) := by
  intro pins s σ H x y vx vy Q I rx ry h
  obtain ⟨i, j, rfl, rfl, c, q⟩ := h
  obtain ⟨t, rfl⟩ := rx
  obtain ⟨t', rfl⟩ := ry
  exact PyProof.Rows.imul_int ⟨.int _, H, I.tok _, ⟨_, rfl⟩, q⟩ c.ok
theorem ip_div : PIp X .FloorDiv (ipC CDivW fun i j => i / j) := by
  intro pins s σ H x y vx vy Q I rx ry h
  obtain ⟨i, j, rfl, rfl, c, q⟩ := h
  exact iop_fdivW pins s σ H _ _ vx vy Q I rx ry ⟨i, j, rfl, rfl, c, q⟩
end

/-! ### what evaluates to what, the heap as it was -/
def Ev (te : TE) (σ : L2.St) (H : Hp) (v : V) : Prop := ∀ Q : VK, Q v H → te σ H Q
def EvL (te : TE) (σ : L2.St) (H : Hp) (xs : List V) : Prop := ∀ Q : VK, (∀ p, H p = none → Q (.ref p) (upd H p (.lst xs))) → te σ H Q
def EvU (te : TE) (σ : L2.St) (H : Hp) (xs : List V) : Prop := ∀ Q : VK, (∀ p, H p = none → Q (.ref p) (upd H p (.tup xs))) → te σ H Q
def EvT (tt : TT) (σ : L2.St) (H : Hp) (b : Bool) : Prop := ∀ Q : Bool → Hp → Prop, Q b H → tt σ H Q
def EvA (ta : TA) (σ : L2.St) (H : Hp) (vs : List V) : Prop := ∀ Q : List V → Hp → Prop, Q vs H → ta σ H Q
def EvO (to : TO) (σ : L2.St) (H : Hp) (o : Option Int) : Prop := ∀ Q : Option Int → Hp → Prop, Q o H → to σ H Q
def RV (r : R2) (x y : V) (H : Hp) (z : V) : Prop := ∀ Q : VK, Q z H → r x y H Q
def RC (r : List V → Hp → VK → Prop) (vs : List V) (H : Hp) (z : V) : Prop := ∀ Q : VK, Q z H → r vs H Q
section
variable {K : PySem.W.Frag} {σ : L2.St} {H : Hp} {ta tb tc te : TE} {t u : TT} {x y z v : V} {r : R2} {i j : Int}
theorem ev_v (n : Nat) (h : σ[n]? = some (some v) := by rfl) : Ev (tVar n) σ H v := fun _ q => ⟨v, h, q⟩
theorem w_v (n : Nat) {Q : VK} (q : Q v H) (h : σ[n]? = some (some v) := by rfl) : tVar n σ H Q := ⟨v, h, q⟩
theorem ev_c : Ev (tC v) σ H v := fun _ q => q
theorem ev_op (ha : Ev ta σ H x) (hb : Ev tb σ H y) (hr : RV r x y H z) : Ev (tOp r ta tb) σ H z := fun Q q => ha _ (hb _ (hr Q q))
theorem ev_eq (h : Ev te σ H x) (e : x = y) : Ev te σ H y := e ▸ h
theorem rv_0 {g : Int → Int → V} : RV (rI0 g) (.int i) (.int j) H (g i j) := fun _ q => ⟨i, j, rfl, rfl, q⟩
theorem rv_1 {C : Int → Int → Prop} {g : Int → Int → V} (c : C i j) : RV (rI C g) (.int i) (.int j) H (g i j) := fun _ q => ⟨i, j, rfl, rfl, c, q⟩
theorem ev_add (ha : Ev ta σ H (.int i)) (hb : Ev tb σ H (.int j)) : Ev (tOp oAdd ta tb) σ H (.int (i + j)) := ev_op ha hb rv_0
theorem ev_sub (ha : Ev ta σ H (.int i)) (hb : Ev tb σ H (.int j)) : Ev (tOp oSub ta tb) σ H (.int (i - j)) := ev_op ha hb rv_0
theorem ev_mul (ha : Ev ta σ H (.int i)) (hb : Ev tb σ H (.int j)) (c : CMulW i j) : Ev (tOp oMul ta tb) σ H (.int (i * j)) := ev_op ha hb (rv_1 c)
theorem ev_div (ha : Ev ta σ H (.int i)) (hb : Ev tb σ H (.int j)) (c : CDivW i j) : Ev (tOp oDiv ta tb) σ H (.int (i / j)) := ev_op ha hb (rv_1 c)
theorem ev_mod (ha : Ev ta σ H (.int i)) (hb : Ev tb σ H (.int j)) (c : 0 < j) : Ev (tOp oMod ta tb) σ H (.int (i % j)) := ev_op ha hb (rv_1 c)
theorem ev_pow (ha : Ev ta σ H (.int i)) (hb : Ev tb σ H (.int j)) (c : CPow i j) : Ev (tOp oPow ta tb) σ H (.int (i ^ j.toNat)) := ev_op ha hb (rv_1 c)
theorem ev_lt (ha : Ev ta σ H (.int i)) (hb : Ev tb σ H (.int j)) : Ev (tOp oLt ta tb) σ H (.bl (decide (i < j))) := ev_op ha hb rv_0
theorem ev_le (ha : Ev ta σ H (.int i)) (hb : Ev tb σ H (.int j)) : Ev (tOp oLe ta tb) σ H (.bl (decide (i ≤ j))) := ev_op ha hb rv_0
theorem ev_gt (ha : Ev ta σ H (.int i)) (hb : Ev tb σ H (.int j)) : Ev (tOp oGt ta tb) σ H (.bl (decide (j < i))) := ev_op ha hb rv_0
theorem ev_ge (ha : Ev ta σ H (.int i)) (hb : Ev tb σ H (.int j)) : Ev (tOp oGe ta tb) σ H (.bl (decide (j ≤ i))) := ev_op ha hb rv_0
theorem ev_eqs (ha : Ev ta σ H x) (hb : Ev tb σ H y) (s : scal x y = true) : Ev (tOp rEq ta tb) σ H (.bl (decide (x = y))) := ev_op ha hb fun _ q => ⟨s, q⟩
theorem ev_nes (ha : Ev ta σ H x) (hb : Ev tb σ H y) (s : scal x y = true) : Ev (tOp rNe ta tb) σ H (.bl (!decide (x = y))) := ev_op ha hb fun _ q => ⟨s, q⟩
theorem dec_int : decide (V.int i = V.int j) = decide (i = j) := by
  by_cases h : i = j
  · subst h; simp
  · rw [decide_eq_false h, decide_eq_false (fun e => h (V.int.inj e))]
theorem ev_eqi (ha : Ev ta σ H (.int i)) (hb : Ev tb σ H (.int j)) : Ev (tOp rEq ta tb) σ H (.bl (decide (i = j))) := fun Q q => ev_eqs ha hb rfl Q (by rw [dec_int]; exact q)
theorem ev_nei (ha : Ev ta σ H (.int i)) (hb : Ev tb σ H (.int j)) : Ev (tOp rNe ta tb) σ H (.bl (!decide (i = j))) := fun Q q => ev_nes ha hb rfl Q (by rw [dec_int]; exact q)
theorem ev_isN (ha : Ev ta σ H x) : Ev (tOp oIsN ta (tC .non)) σ H (.bl (decide (x = .non))) := ev_op ha ev_c fun _ q => ⟨rfl, q⟩
theorem ev_notN (ha : Ev ta σ H x) : Ev (tOp oNotN ta (tC .non)) σ H (.bl (!decide (x = .non))) := ev_op ha ev_c fun _ q => ⟨rfl, q⟩
theorem ev_isB {a b : Bool} (ha : Ev ta σ H (.bl a)) (hb : Ev tb σ H (.bl b)) : Ev (tOp rIsB ta tb) σ H (.bl (decide (a = b))) := ev_op ha hb fun _ q => ⟨a, b, rfl, rfl, q⟩
theorem ev_notB {a b : Bool} (ha : Ev ta σ H (.bl a)) (hb : Ev tb σ H (.bl b)) : Ev (tOp rNotB ta tb) σ H (.bl (!decide (a = b))) := ev_op ha hb fun _ q => ⟨a, b, rfl, rfl, q⟩
theorem ev_neg (ha : Ev ta σ H (.int i)) : Ev (tUn uNeg ta) σ H (.int (-i)) := fun _ q => ha _ ⟨i, rfl, q⟩
theorem ev_chain {a b : Bool} {r r' : R2} (ha : Ev ta σ H x) (hb : Ev tb σ H y) (hr : RV r x y H (.bl a)) (hc : a = true → Ev tc σ H z) (hr' : a = true → RV r' y z H (.bl b)) : Ev (tChain r r' ta tb tc) σ H (.bl (a && b)) := fun Q q =>
  ha _ (hb _ (hr _ ⟨a, rfl, by
    cases a with
    | true => exact iteT (hc rfl _ (hr' rfl Q q))
    | false => exact iteF q⟩))
theorem ev_ixL {p : Addr} {xs : List V} (ha : Ev ta σ H (.ref p)) (hb : Ev tb σ H (.int i)) (h : SqL K H p xs) (e : atI xs i = some v) : Ev (tOp (rIxL K) ta tb) σ H v := ev_op ha hb fun _ q => ⟨p, xs, i, v, rfl, rfl, h, e, q⟩
theorem ev_ixT {p : Addr} {xs : List V} (ha : Ev ta σ H (.ref p)) (hb : Ev tb σ H (.int i)) (h : SqT K H p xs) (e : atI xs i = some v) : Ev (tOp (rIxT K) ta tb) σ H v := ev_op ha hb fun _ q => ⟨p, xs, i, v, rfl, rfl, h, e, q⟩
theorem ev_cb {r : List V → Hp → VK → Prop} {ta : TA} {vs : List V} (h : EvA ta σ H vs) (hr : RC r vs H z) : Ev (tCB r ta) σ H z := fun Q q => h _ (hr Q q)
theorem ea_nil : EvA tNil σ H [] := fun _ q => q
theorem ea_cons {tr : TA} {vs : List V} (h : Ev ta σ H x) (hr : EvA tr σ H vs) : EvA (tCons ta tr) σ H (x :: vs) := fun _ q => h _ (hr _ q)
theorem ea_1 (h : Ev ta σ H x) : EvA (tCons ta tNil) σ H [x] := ea_cons h ea_nil
theorem ea_2 (h : Ev ta σ H x) (g : Ev tb σ H y) : EvA (tCons ta (tCons tb tNil)) σ H [x, y] := ea_cons h (ea_1 g)
theorem ea_3 (h : Ev ta σ H x) (g : Ev tb σ H y) (f : Ev tc σ H z) : EvA (tCons ta (tCons tb (tCons tc tNil))) σ H [x, y, z] := ea_cons h (ea_2 g f)
theorem ev_len {p : Addr} {xs : List V} (ha : Ev ta σ H (.ref p)) (h : SqL K H p xs) : Ev (tCB (cLen K) (tCons ta tNil)) σ H (.int (xs.length : Int)) := ev_cb (ea_1 ha) fun _ q => ⟨p, xs, rfl, .inl h, q⟩
theorem ev_lenT {p : Addr} {xs : List V} (ha : Ev ta σ H (.ref p)) (h : SqT K H p xs) : Ev (tCB (cLen K) (tCons ta tNil)) σ H (.int (xs.length : Int)) := ev_cb (ea_1 ha) fun _ q => ⟨p, xs, rfl, .inr h, q⟩
theorem ev_lenS {s : Str} (ha : Ev ta σ H (.str s)) (h : s.length ≤ sizeLine) : Ev (tCB cLenS (tCons ta tNil)) σ H (.int (s.length : Int)) := ev_cb (ea_1 ha) fun _ q => ⟨s, rfl, h, q⟩
theorem ev_intB {b : Bool} (ha : Ev ta σ H (.bl b)) : Ev (tCB cInt (tCons ta tNil)) σ H (.int (if b then 1 else 0)) := ev_cb (ea_1 ha) fun _ q => .inr ⟨b, rfl, q⟩
theorem ev_intI (ha : Ev ta σ H (.int i)) : Ev (tCB cInt (tCons ta tNil)) σ H (.int i) := ev_cb (ea_1 ha) fun _ q => .inl ⟨i, rfl, q⟩
theorem ev_abs (ha : Ev ta σ H (.int i)) : Ev (tCB cAbs (tCons ta tNil)) σ H (.int (if i < 0 then -i else i)) := ev_cb (ea_1 ha) fun _ q => ⟨i, rfl, q⟩
theorem ev_max (ha : Ev ta σ H (.int i)) (hb : Ev tb σ H (.int j)) : Ev (tCB cMax (tCons ta (tCons tb tNil))) σ H (.int (if j > i then j else i)) := ev_cb (ea_2 ha hb) fun _ q => ⟨i, j, rfl, q⟩
theorem ev_min (ha : Ev ta σ H (.int i)) (hb : Ev tb σ H (.int j)) : Ev (tCB cMin (tCons ta (tCons tb tNil))) σ H (.int (if j < i then j else i)) := ev_cb (ea_2 ha hb) fun _ q => ⟨i, j, rfl, q⟩
theorem ev_sum {p : Addr} {ns : List Int} (ha : Ev ta σ H (.ref p)) (h : SqL K H p (ns.map V.int)) : Ev (tCB (rSum K) (tCons ta tNil)) σ H (.int ns.sum) := ev_cb (ea_1 ha) fun _ q => ⟨p, ns, rfl, h, q⟩
theorem ev_isi {t0 u0 : Value} {b : Bool} {c : V} (ha : Ev ta σ H x) (hb : Ev tb σ H c) (k : ClsV c u0) (ty : TyX K H x t0) (e : PySem.W.kitOne K t0 u0 = some b) : Ev (tCB (rIsi K) (tCons ta (tCons tb tNil))) σ H (.bl b) := ev_cb (ea_2 ha hb) fun _ q => ⟨x, c, t0, u0, b, rfl, k, ty, e, q⟩
theorem ev_if {b : Bool} (h : EvT t σ H b) (h1 : b = true → Ev ta σ H v) (h2 : b = false → Ev tb σ H v) : Ev (tIf t ta tb) σ H v := fun Q q => h _ (by
  cases b with
  | true => exact iteT (h1 rfl Q q)
  | false => exact iteF (h2 rfl Q q))
theorem ev_ite {b : Bool} {v w : V} (h : EvT t σ H b) (h1 : Ev ta σ H v) (h2 : Ev tb σ H w) : Ev (tIf t ta tb) σ H (if b then v else w) := fun Q q => h _ (by
  cases b with
  | true => exact iteT (h1 Q q)
  | false => exact iteF (h2 Q q))
theorem ev_and {a b : Bool} (h1 : Ev ta σ H (.bl a)) (h2 : a = true → Ev tb σ H (.bl b)) : Ev (tAndV ta tb) σ H (.bl (a && b)) := fun Q q => h1 _ ⟨a, rfl, by
  cases a with
  | true => exact iteT (h2 rfl Q q)
  | false => exact iteF q⟩
theorem ev_or {a b : Bool} (h1 : Ev ta σ H (.bl a)) (h2 : a = false → Ev tb σ H (.bl b)) : Ev (tOrV ta tb) σ H (.bl (a || b)) := fun Q q => h1 _ ⟨a, rfl, by
  cases a with
  | true => exact iteT q
  | false => exact iteF (h2 rfl Q q)⟩
theorem ev_not {a : Bool} (h1 : Ev ta σ H (.bl a)) : Ev (tNotV ta) σ H (.bl (!a)) := fun _ q => h1 _ ⟨a, rfl, q⟩
theorem et_t {b : Bool} (h : Ev te σ H (.bl b)) : EvT (tTest te) σ H b := fun _ q => h _ ⟨b, rfl, q⟩
theorem et_b {b : Bool} (h : Ev te σ H (.bl b)) : EvT (tB te) σ H b := fun _ q => h _ ⟨b, rfl, q⟩
theorem et_and {a b : Bool} (h1 : EvT t σ H a) (h2 : a = true → EvT u σ H b) : EvT (tAnd t u) σ H (a && b) := fun Q q => h1 _ (by
  cases a with
  | true => exact iteT (h2 rfl Q q)
  | false => exact iteF q)
theorem et_or {a b : Bool} (h1 : EvT t σ H a) (h2 : a = false → EvT u σ H b) : EvT (tOr t u) σ H (a || b) := fun Q q => h1 _ (by
  cases a with
  | true => exact iteT q
  | false => exact iteF (h2 rfl Q q))
theorem et_not {a : Bool} (h1 : EvT t σ H a) : EvT (tNot t) σ H (!a) := fun _ q => h1 _ q
theorem et_eq {a b : Bool} (h : EvT t σ H a) (e : a = b) : EvT t σ H b := e ▸ h
theorem et_yes : EvT tYes σ H true := fun _ q => q
theorem eo_no : EvO tNoPart σ H none := fun _ q => q
theorem eo_is (h : Ev te σ H (.int i)) : EvO (tPart te) σ H (some i) := fun _ q => h _ ⟨i, rfl, q⟩
theorem el_nil : EvL (tLst tNil) σ H [] := fun _ q => ⟨Nat.zero_le _, q⟩
theorem el_lst {ta : TA} {vs : List V} (h : EvA ta σ H vs) (hl : vs.length ≤ 1000) : EvL (tLst ta) σ H vs := fun _ q => h _ ⟨Nat.le_trans hl (by decide), q⟩
theorem eu_tup {ta : TA} {vs : List V} (h : EvA ta σ H vs) (hl : vs.length ≤ 1000) : EvU (tTup ta) σ H vs := fun _ q => h _ ⟨Nat.le_trans hl (by decide), q⟩
theorem el_sl {tl th : TO} {a : Addr} {xs : List V} {lo hi : Option Int} (h : Ev te σ H (.ref a)) (h1 : EvO tl σ H lo) (h2 : EvO th σ H hi) (hs : SqL K H a xs) : EvL (tSl (rSlL K) te tl th) σ H (cutV xs lo hi) := fun _ q => h _ (h1 _ (h2 _ ⟨a, xs, rfl, hs, q⟩))
theorem el_list {a : Addr} {xs : List V} (h : Ev te σ H (.ref a)) (hs : SqL K H a xs) : EvL (tCB (cList K) (tCons te tNil)) σ H xs := fun _ q => h _ ⟨a, xs, rfl, .inl hs, q⟩
theorem el_rev {a : Addr} {xs : List V} (h : Ev te σ H (.ref a)) (hs : SqL K H a xs) : EvL (tRevL K te) σ H xs.reverse := fun _ q => h _ ⟨a, xs, rfl, hs, q⟩
theorem el_cat {a b : Addr} {xs ys : List V} (h : Ev ta σ H (.ref a)) (g : Ev tb σ H (.ref b)) (ha : H a = some (.lst xs)) (hb : H b = some (.lst ys)) (hl : xs.length + ys.length ≤ sizeLine) : EvL (tOp rCat ta tb) σ H (xs ++ ys) := fun _ q => h _ (g _ ⟨a, b, xs, ys, rfl, rfl, ha, hb, hl, q⟩)

/-! ### forgetting -/
theorem ev_fg [Nod H] (h : ∀ Q : VK, (∀ H', Ex H H' → Q v H') → te σ H Q) : Ev (tFg te) σ H v := fun Q q => h _ fun H' e => ⟨H, fg_same e, q⟩
theorem el_fg [Nod H] {xs : List V} (h : ∀ Q : VK, (∀ p H', H p = none → Ex H H' → H' p = some (.lst xs) → Q (.ref p) H') → te σ H Q) : EvL (tFg te) σ H xs := fun Q q => h _ fun p H' hp e hx => ⟨upd H p (.lst xs), fg_new trivial hp e hx, q p hp⟩
theorem et_fg [Nod H] {b : Bool} (h : ∀ Q : Bool → Hp → Prop, (∀ H', Ex H H' → Q b H') → t σ H Q) : EvT (bFg t) σ H b := fun Q q => h _ fun H' e => ⟨H, fg_same e, q⟩
/-- what is already exact stays so -/
theorem ev_fg0 [Nod H] (h : Ev te σ H v) : Ev (tFg te) σ H v := ev_fg fun Q q => h Q (q H ex_refl)
/-- an item of a list made on the way -/
theorem ev_pick [Nod H] {xs : List V} (h : EvL ta σ H xs) (hb : ∀ p, H p = none → Ev tb σ (upd H p (.lst xs)) (.int i)) (e : atI xs i = some v) : Ev (tFg (tOp (rIxL K) ta tb)) σ H v :=
  ev_fg fun Q q => h _ fun p hp => hb p hp _ ⟨p, xs, i, v, rfl, rfl, sq_up, e, q _ (ex_new hp)⟩
end
end Px
set_option Elab.async false
set_option linter.all false
set_option maxRecDepth 100000
set_option maxHeartbeats 4000000
namespace Px
open PySem L2
section
variable {K : PySem.W.Frag} {σ : L2.St} {H : Hp} {ta tb tc te tl : TE} {t u : TT} {x y z v : V} {D : Ends} {s1 s2 s3 tu : TS} {n m : Nat} {i j : Int}
/-! ### statements -/
theorem s_set (h : Ev te σ H v) (k : D.nx (σ.set n (some v)) H) : tAsg te (gName n) D σ H := h _ k
theorem s_setL {xs : List V} (h : EvL te σ H xs) (k : ∀ p, H p = none → D.nx (σ.set n (some (.ref p))) (upd H p (.lst xs))) : tAsg te (gName n) D σ H := h _ k
theorem q_set (h : Ev te σ H v) (k : s2 D (σ.set n (some v)) H) : tSeq (tAsg te (gName n)) s2 D σ H := h _ k
theorem q_setL {xs : List V} (h : EvL te σ H xs) (k : ∀ p, H p = none → s2 D (σ.set n (some (.ref p))) (upd H p (.lst xs))) : tSeq (tAsg te (gName n)) s2 D σ H := h _ k
theorem q_setW (h : te σ H fun w H1 => s2 D (σ.set n (some w)) H1) : tSeq (tAsg te (gName n)) s2 D σ H := h
theorem s_setW (h : te σ H fun w H1 => D.nx (σ.set n (some w)) H1) : tAsg te (gName n) D σ H := h
theorem s_ret (h : Ev te σ H v) (k : D.rt v H) : tRet te D σ H := h _ k
theorem s_retL {xs : List V} (h : EvL te σ H xs) (k : ∀ p, H p = none → D.rt (.ref p) (upd H p (.lst xs))) : tRet te D σ H := h _ k
theorem s_if {b : Bool} (h : EvT t σ H b) (h1 : b = true → s1 D σ H) (h2 : b = false → s2 D σ H) : tIfS t s1 s2 D σ H := h _ (by
  cases b with
  | true => exact iteT (h1 rfl)
  | false => exact iteF (h2 rfl))
theorem q_if {b : Bool} (h : EvT t σ H b) (h1 : b = true → s1 { D with nx := s3 D } σ H) (h2 : b = false → s2 { D with nx := s3 D } σ H) : tSeq (tIfS t s1 s2) s3 D σ H := s_if (D := { D with nx := s3 D }) h h1 h2
theorem q_when {b : Bool} (h : EvT t σ H b) (h1 : b = true → s1 { D with nx := s3 D } σ H) (h2 : b = false → s3 D σ H) : tSeq (tIfS t s1 tNext) s3 D σ H := s_if (D := { D with nx := s3 D }) h h1 h2
theorem s_when {b : Bool} (h : EvT t σ H b) (h1 : b = true → s1 D σ H) (h2 : b = false → D.nx σ H) : tIfS t s1 tNext D σ H := s_if h h1 h2
theorem s_drop (h : Ev te σ H v) (k : D.nx σ H) : tDrop te D σ H := h _ k
theorem q_seq (h : s1 { D with nx := s2 D } σ H) : tSeq s1 s2 D σ H := h
theorem s_app {l : Addr} {xs : List V} (hl : H l = some (.lst xs)) (hz : xs.length < sizeLine) (ha : Ev ta σ H (.ref l)) (h : Ev te σ H v) (k : D.nx σ (upd H l (.lst (xs ++ [v])))) : tDrop (tBM K "list" rAppend ta (tCons te tNil)) D σ H :=
  ha _ ⟨.inl ⟨rfl, xs, sq_at hl⟩, h _ ⟨l, xs, v, rfl, rfl, hl, hz, k⟩⟩
theorem q_app {l : Addr} {xs : List V} (hl : H l = some (.lst xs)) (hz : xs.length < sizeLine) (ha : Ev ta σ H (.ref l)) (h : Ev te σ H v) (k : s2 D σ (upd H l (.lst (xs ++ [v])))) : tSeq (tDrop (tBM K "list" rAppend ta (tCons te tNil))) s2 D σ H := s_app (D := { D with nx := s2 D }) hl hz ha h k
theorem s_ext {l b : Addr} {xs ys : List V} (hl : H l = some (.lst xs)) (hb : H b = some (.lst ys)) (hz : xs.length + ys.length ≤ sizeLine) (ha : Ev ta σ H (.ref l)) (h : Ev te σ H (.ref b)) (k : D.nx σ (upd H l (.lst (xs ++ ys)))) : tDrop (tBM K "list" rExtend ta (tCons te tNil)) D σ H :=
  ha _ ⟨.inl ⟨rfl, xs, sq_at hl⟩, h _ ⟨l, b, xs, ys, rfl, rfl, hl, hb, hz, k⟩⟩
theorem ixn {k j : Nat} (h : j < k) : ixN k (j : Int) = some j := by
  unfold ixN
  rw [if_pos (by omega), if_pos (by omega)]
  simp
theorem ixn0 {k : Nat} (h : 0 < k) : ixN k 0 = some 0 := ixn (j := 0) h
theorem ixn1 {k : Nat} (h : 1 < k) : ixN k 1 = some 1 := ixn (j := 1) h
theorem s_sub {l : Addr} {xs : List V} {jj : Int} {j : Nat} (hl : H l = some (.lst xs)) (e : ixN xs.length jj = some j) (h : Ev te σ H v) (ho : Ev ta σ H (.ref l)) (hi : Ev tb σ H (.int jj)) (k : D.nx σ (upd H l (.lst (xs.set j v)))) : tAsg te (gSub ta tb rSetL) D σ H :=
  h _ (ho _ (hi _ ⟨l, xs, jj, j, rfl, rfl, hl, e, k⟩))
theorem q_sub {l : Addr} {xs : List V} {jj : Int} {j : Nat} (hl : H l = some (.lst xs)) (e : ixN xs.length jj = some j) (h : Ev te σ H v) (ho : Ev ta σ H (.ref l)) (hi : Ev tb σ H (.int jj)) (k : s2 D σ (upd H l (.lst (xs.set j v)))) : tSeq (tAsg te (gSub ta tb rSetL)) s2 D σ H := s_sub (D := { D with nx := s2 D }) hl e h ho hi k
theorem s_aug {f : Int → Int → Int} {a b : Int} (h : Ev te σ H (.int b)) (k : D.nx (σ.set n (some (.int (f a b)))) H) (hx : σ[n]? = some (some (.int a)) := by rfl) : tAug n te (ipI f) D σ H := ⟨.int a, hx, h _ ⟨a, b, rfl, rfl, k⟩⟩
theorem q_aug {f : Int → Int → Int} {a b : Int} (h : Ev te σ H (.int b)) (k : s2 D (σ.set n (some (.int (f a b)))) H) (hx : σ[n]? = some (some (.int a)) := by rfl) : tSeq (tAug n te (ipI f)) s2 D σ H := s_aug (D := { D with nx := s2 D }) h k hx
theorem s_augC {C : Int → Int → Prop} {f : Int → Int → Int} {a b : Int} (h : Ev te σ H (.int b)) (k : D.nx (σ.set n (some (.int (f a b)))) H) (c : C a b) (hx : σ[n]? = some (some (.int a)) := by rfl) : tAug n te (ipC C f) D σ H := ⟨.int a, hx, h _ ⟨a, b, rfl, rfl, c, k⟩⟩
theorem q_augC {C : Int → Int → Prop} {f : Int → Int → Int} {a b : Int} (h : Ev te σ H (.int b)) (k : s2 D (σ.set n (some (.int (f a b)))) H) (c : C a b) (hx : σ[n]? = some (some (.int a)) := by rfl) : tSeq (tAug n te (ipC C f)) s2 D σ H := s_augC (D := { D with nx := s2 D }) h k c hx
/-! ### loops -/
theorem s_while (W : Nat → L2.St → Hp → Prop) (m0 : Nat) (h0 : W m0 σ H)
    (hs : ∀ m σ' H', W m σ' H' → ∃ b, EvT t σ' H' b ∧ (b = true → tu { D with nx := fun σ2 H2 => ∃ m', m' < m ∧ W m' σ2 H2, ct := fun σ2 H2 => ∃ m', m' < m ∧ W m' σ2 H2, bk := D.nx } σ' H') ∧ (b = false → D.nx σ' H')) : tWhile t tu D σ H :=
  ⟨W, ⟨m0, h0⟩, fun m σ' H' hw => by
    obtain ⟨b, hb, h1, h2⟩ := hs m σ' H' hw
    refine hb _ ?_
    cases b with
    | true => exact iteT ⟨_, fun σ2 H2 q => q, h1 rfl⟩
    | false => exact iteF (h2 rfl)⟩
theorem q_while (W : Nat → L2.St → Hp → Prop) (m0 : Nat) (h0 : W m0 σ H)
    (hs : ∀ m σ' H', W m σ' H' → ∃ b, EvT t σ' H' b ∧ (b = true → tu { D with nx := fun σ2 H2 => ∃ m', m' < m ∧ W m' σ2 H2, ct := fun σ2 H2 => ∃ m', m' < m ∧ W m' σ2 H2, bk := s2 D } σ' H') ∧ (b = false → s2 D σ' H')) : tSeq (tWhile t tu) s2 D σ H :=
  s_while (D := { D with nx := s2 D }) W m0 h0 hs
theorem s_forR1 {ta : TA} {k : Int} (h : EvA ta σ H [.int k]) (hk : -(2 ^ 62) ≤ k ∧ k < 2 ^ 62) (Pv : Nat → L2.St → Hp → Prop) (h0 : Pv 0 σ H)
    (hs : ∀ (i : Nat) σ' H', (i : Int) < k → Pv i σ' H' → tu { D with nx := Pv (i + 1), ct := Pv (i + 1), bk := D.nx } (σ'.set n (some (.int (i : Int)))) H') (hd : ∀ σ' H', Pv k.toNat σ' H' → D.nx σ' H') : tFor (iRng1 ta) (gName n) tu D σ H :=
  h _ ⟨k, rfl, hk.1, hk.2, for_range (lo := 0) (n := k.toNat) Pv h0 (fun i σ' H' hi p => by
    show tu { D with nx := Pv (i + 1), ct := Pv (i + 1), bk := D.nx } (σ'.set n (some (.int ((0 : Int) + (i : Int))))) H'
    rw [Int.zero_add]
    exact hs i σ' H' (by omega) p) hd⟩
theorem q_forR1 {ta : TA} {k : Int} (h : EvA ta σ H [.int k]) (hk : -(2 ^ 62) ≤ k ∧ k < 2 ^ 62) (Pv : Nat → L2.St → Hp → Prop) (h0 : Pv 0 σ H)
    (hs : ∀ (i : Nat) σ' H', (i : Int) < k → Pv i σ' H' → tu { D with nx := Pv (i + 1), ct := Pv (i + 1), bk := s2 D } (σ'.set n (some (.int (i : Int)))) H') (hd : ∀ σ' H', Pv k.toNat σ' H' → s2 D σ' H') : tSeq (tFor (iRng1 ta) (gName n) tu) s2 D σ H :=
  s_forR1 (D := { D with nx := s2 D }) h hk Pv h0 hs hd
theorem s_forR2 {ta : TA} {lo k : Int} (h : EvA ta σ H [.int lo, .int k]) (hk : -(2 ^ 62) ≤ lo ∧ lo < 2 ^ 62 ∧ -(2 ^ 62) ≤ k ∧ k < 2 ^ 62) (Pv : Nat → L2.St → Hp → Prop) (h0 : Pv 0 σ H)
    (hs : ∀ (i : Nat) σ' H', lo + (i : Int) < k → Pv i σ' H' → tu { D with nx := Pv (i + 1), ct := Pv (i + 1), bk := D.nx } (σ'.set n (some (.int (lo + (i : Int))))) H') (hd : ∀ σ' H', Pv (k - lo).toNat σ' H' → D.nx σ' H') : tFor (iRng2 ta) (gName n) tu D σ H :=
  h _ ⟨lo, k, rfl, hk, for_range (lo := lo) (n := (k - lo).toNat) Pv h0 (fun i σ' H' hi p => hs i σ' H' (by omega) p) hd⟩
theorem q_forR2 {ta : TA} {lo k : Int} (h : EvA ta σ H [.int lo, .int k]) (hk : -(2 ^ 62) ≤ lo ∧ lo < 2 ^ 62 ∧ -(2 ^ 62) ≤ k ∧ k < 2 ^ 62) (Pv : Nat → L2.St → Hp → Prop) (h0 : Pv 0 σ H)
    (hs : ∀ (i : Nat) σ' H', lo + (i : Int) < k → Pv i σ' H' → tu { D with nx := Pv (i + 1), ct := Pv (i + 1), bk := s2 D } (σ'.set n (some (.int (lo + (i : Int))))) H') (hd : ∀ σ' H', Pv (k - lo).toNat σ' H' → s2 D σ' H') : tSeq (tFor (iRng2 ta) (gName n) tu) s2 D σ H :=
  s_forR2 (D := { D with nx := s2 D }) h hk Pv h0 hs hd
/-- over a list of ints -/
theorem s_forI {a : Addr} {ns : List Int} (h : Ev tl σ H (.ref a)) (hx : SqL K H a (ns.map V.int)) (Pv : Nat → L2.St → Hp → Prop) (h0 : Pv 0 σ H) (hl : ∀ i σ' H', i ≤ ns.length → Pv i σ' H' → SqL K H' a (ns.map V.int))
    (hs : ∀ i x σ' H', ns[i]? = some x → Pv i σ' H' → tu { D with nx := Pv (i + 1), ct := Pv (i + 1), bk := D.nx } (σ'.set n (some (.int x))) H') (hd : ∀ σ' H', Pv ns.length σ' H' → D.nx σ' H') : tFor (iList K tl) (gName n) tu D σ H :=
  h _ ⟨a, rfl, ⟨_, hx⟩, for_list (xs := ns.map V.int) Pv h0 (fun i σ' H' hi p => hl i σ' H' (by simpa using hi) p) (fun i x σ' H' hi p => by
    rw [List.getElem?_map] at hi
    cases e : ns[i]? with
    | none => rw [e] at hi; cases hi
    | some y => rw [e] at hi; cases hi; exact hs i y σ' H' e p) (fun σ' H' p => hd σ' H' (by simpa using p))⟩
theorem q_forI {a : Addr} {ns : List Int} (h : Ev tl σ H (.ref a)) (hx : SqL K H a (ns.map V.int)) (Pv : Nat → L2.St → Hp → Prop) (h0 : Pv 0 σ H) (hl : ∀ i σ' H', i ≤ ns.length → Pv i σ' H' → SqL K H' a (ns.map V.int))
    (hs : ∀ i x σ' H', ns[i]? = some x → Pv i σ' H' → tu { D with nx := Pv (i + 1), ct := Pv (i + 1), bk := s2 D } (σ'.set n (some (.int x))) H') (hd : ∀ σ' H', Pv ns.length σ' H' → s2 D σ' H') : tSeq (tFor (iList K tl) (gName n) tu) s2 D σ H :=
  s_forI (D := { D with nx := s2 D }) h hx Pv h0 hl hs hd
/-- over a new list of ints -/
theorem s_forN {ns : List Int} (h : EvL tl σ H (ns.map V.int)) (Pv : Addr → Nat → L2.St → Hp → Prop) (h0 : ∀ p, H p = none → Pv p 0 σ (upd H p (.lst (ns.map V.int)))) (hl : ∀ p i σ' H', H p = none → i ≤ ns.length → Pv p i σ' H' → SqL K H' p (ns.map V.int))
    (hs : ∀ p i x σ' H', H p = none → ns[i]? = some x → Pv p i σ' H' → tu { D with nx := Pv p (i + 1), ct := Pv p (i + 1), bk := D.nx } (σ'.set n (some (.int x))) H') (hd : ∀ p σ' H', H p = none → Pv p ns.length σ' H' → D.nx σ' H') : tFor (iList K tl) (gName n) tu D σ H :=
  h _ fun p hp => ⟨p, rfl, ⟨_, sq_up⟩, for_list (xs := ns.map V.int) (Pv p) (h0 p hp) (fun i σ' H' hi q => hl p i σ' H' hp (by simpa using hi) q) (fun i x σ' H' hi q => by
    rw [List.getElem?_map] at hi
    cases e : ns[i]? with
    | none => rw [e] at hi; cases hi
    | some y => rw [e] at hi; cases hi; exact hs p i y σ' H' hp e q) (fun σ' H' q => hd p σ' H' hp (by simpa using q))⟩
theorem q_forN {ns : List Int} (h : EvL tl σ H (ns.map V.int)) (Pv : Addr → Nat → L2.St → Hp → Prop) (h0 : ∀ p, H p = none → Pv p 0 σ (upd H p (.lst (ns.map V.int)))) (hl : ∀ p i σ' H', H p = none → i ≤ ns.length → Pv p i σ' H' → SqL K H' p (ns.map V.int))
    (hs : ∀ p i x σ' H', H p = none → ns[i]? = some x → Pv p i σ' H' → tu { D with nx := Pv p (i + 1), ct := Pv p (i + 1), bk := s2 D } (σ'.set n (some (.int x))) H') (hd : ∀ p σ' H', H p = none → Pv p ns.length σ' H' → s2 D σ' H') : tSeq (tFor (iList K tl) (gName n) tu) s2 D σ H :=
  s_forN (D := { D with nx := s2 D }) h Pv h0 hl hs hd
/-! ### comprehensions -/
/-- over a list: D the new one; the heap in the turns -/
theorem el_lc {a : Addr} {xs : List V} {vs : List Nat} (p : V → Bool) (f : V → V) (h : Ev tl σ H (.ref a)) (hx : SqL K H a xs) (hz : xs.length ≤ sizeLine) (hw : ∀ x, wipe ((wipe σ vs).set n (some x)) vs = wipe σ vs)
    (ht : ∀ x ∈ xs, ∀ D acc, H D = none → EvT t ((wipe σ vs).set n (some x)) (upd H D (.lst acc)) (p x)) (he : ∀ x ∈ xs, p x = true → ∀ D acc, H D = none → Ev te ((wipe σ vs).set n (some x)) (upd H D (.lst acc)) (f x)) :
    EvL (tLc (iList K tl) (gName n) t te vs) σ H ((xs.filter p).map f) := fun Q q => h _ ⟨a, rfl, ⟨xs, hx⟩, fun D hD =>
  lc_list (xs := xs) (fun i H' => H' = upd H D (.lst (((xs.take i).filter p).map f))) (by simp) (fun i H' _ e => by subst e; exact sq_new hD hx) (fun i x H' hi e => by
    subst e
    have hm : x ∈ xs := List.mem_of_getElem? hi
    have hlt : i < xs.length := (List.getElem?_eq_some_iff.mp hi).1
    have et : xs.take (i + 1) = xs.take i ++ [x] := by rw [List.take_add_one, hi]; rfl
    refine ⟨hw x, ht x hm D _ hD _ ?_⟩
    cases hp : p x with
    | true =>
      refine iteT (he x hm hp D _ hD _ ⟨_, upd_same, ?_, ?_⟩)
      · rw [List.length_map]
        refine Nat.lt_of_le_of_lt (List.length_filter_le _ _) ?_
        rw [List.length_take]
        omega
      · rw [upd_upd, et, List.filter_append, List.map_append, List.filter_cons, if_pos hp]; rfl
    | false =>
      refine iteF ?_
      rw [et, List.filter_append, List.map_append, List.filter_cons, if_neg (by rw [hp]; decide)]
      simp) (fun H' e => by subst e; rw [List.take_length]; exact q D hD)⟩
/-- over a new list -/
theorem el_lcN [Nod H] {xs : List V} {vs : List Nat} (p : V → Bool) (f : V → V) (h : EvL tl σ H xs) (hz : xs.length ≤ sizeLine) (hw : ∀ x, wipe ((wipe σ vs).set n (some x)) vs = wipe σ vs)
    (ht : ∀ x ∈ xs, ∀ q D acc, H q = none → H D = none → q ≠ D → EvT t ((wipe σ vs).set n (some x)) (upd (upd H q (.lst xs)) D (.lst acc)) (p x)) (he : ∀ x ∈ xs, p x = true → ∀ q D acc, H q = none → H D = none → q ≠ D → Ev te ((wipe σ vs).set n (some x)) (upd (upd H q (.lst xs)) D (.lst acc)) (f x)) :
    EvL (tFg (tLc (iList K tl) (gName n) t te vs)) σ H ((xs.filter p).map f) := el_fg fun Q q => by
  refine h _ fun r hr => ?_
  refine el_lc (K := K) (H := upd H r (.lst xs)) (tl := fun _ H Q => Q (.ref r) H) p f (fun _ z => z) sq_up hz hw (fun x hx D acc hD => ?_) (fun x hx hp D acc hD => ?_) _ fun D hD => ?_
  · obtain ⟨h1, h2⟩ := none_upd hD
    exact ht x hx r D acc hr h1 (Ne.symm h2)
  · obtain ⟨h1, h2⟩ := none_upd hD
    exact he x hx hp r D acc hr h1 (Ne.symm h2)
  · obtain ⟨h1, h2⟩ := none_upd hD
    exact q D _ h1 (ex_upd h1 (ex_new hr)) upd_same
/-- over range(k), range(lo, k) -/
theorem el_lcR1 {ta : TA} {k : Int} {vs : List Nat} (p : Int → Bool) (f : Int → V) (h : EvA ta σ H [.int k]) (hk : -(2 ^ 62) ≤ k ∧ k ≤ 16777216) (hw : ∀ x, wipe ((wipe σ vs).set n (some x)) vs = wipe σ vs)
    (ht : ∀ i : Int, 0 ≤ i → i < k → ∀ D acc, H D = none → EvT t ((wipe σ vs).set n (some (.int i))) (upd H D (.lst acc)) (p i)) (he : ∀ i : Int, 0 ≤ i → i < k → p i = true → ∀ D acc, H D = none → Ev te ((wipe σ vs).set n (some (.int i))) (upd H D (.lst acc)) (f i)) :
    EvL (tLc (iRng1 ta) (gName n) t te vs) σ H ((((List.range k.toNat).map Int.ofNat).filter p).map f) := fun Q q => h _ ⟨k, rfl, hk.1, by omega, fun D hD =>
  lc_range (lo := 0) (n := k.toNat) (fun i H' => H' = upd H D (.lst ((((List.range i).map Int.ofNat).filter p).map f))) (by simp) (fun i H' hi e => by
    subst e
    show wipe ((wipe σ vs).set n (some (.int (0 + (i : Int))))) vs = wipe σ vs ∧ t ((wipe σ vs).set n (some (.int (0 + (i : Int))))) _ _
    rw [Int.zero_add]
    refine ⟨hw _, ht i (by omega) (by omega) D _ hD _ ?_⟩
    rw [List.range_succ, List.map_append, List.filter_append, List.map_append]
    have hlen : ((((List.range i).map Int.ofNat).filter p).map f).length < sizeLine := by
      rw [List.length_map]
      refine Nat.lt_of_le_of_lt (List.length_filter_le _ _) ?_
      rw [List.length_map, List.length_range]
      have : sizeLine = 16777216 := by decide
      omega
    cases hp : p (i : Int) with
    | true =>
      refine iteT (he i (by omega) (by omega) hp D _ hD _ ⟨_, upd_same, hlen, ?_⟩)
      rw [upd_upd]
      congr 2
      simp [hp]
    | false =>
      refine iteF ?_
      congr 2
      simp [hp]) (fun H' e => by subst e; exact q D hD)⟩
end
end Px
set_option Elab.async false
set_option linter.all false
set_option maxRecDepth 100000
set_option maxHeartbeats 4000000
namespace Px
open PySem L2
/-- text * int -/
abbrev oRepS : R2 := fun x y H Q => ∃ z n, x = .str z ∧ y = .int n ∧ MulOk z n ∧ Q (.str (Txt.mul z n)) H
theorem op_repS {X : Cx} : OpR X (binaryOp .Mult) oRepS := by
  intro pins s σ H x y v u Q I rx ry h
  obtain ⟨z, n, rfl, rfl, ok, q⟩ := h
  obtain ⟨t, rfl⟩ := rx
  obtain ⟨t', rfl⟩ := ry
  exact SB.mul ok fun t1 k => ⟨.str _, H, I.tok _, ⟨_, rfl⟩, q⟩
/-- a def of the text, by its name: it keeps its promise -/
structure Fn (P : Program) (w : World) (K : PySem.W.Frag) (mg : Str → Option Value) (base : Heap) (x : Str) (k : Nat) (ps : List Str) (sp : Sp) : Prop where
  ex : ∃ (f : Addr) (fd : FuncData), FnOk P w K mg base CX0 k f fd ps sp ∧ mg x = some (.ref f) ∧ PySem.W.keepIn K (.ref f) = true ∧ Binds K fd ps []
theorem pe_fn {X : Cx} {k : Nat} {ps : List Str} {sp : Sp} {x : Str} {p pos : Pos} {e : Expr} {es : List Expr} {t : TA} (F : Fn X.prog X.w X.K X.mg X.base x k ps sp) (hr : Room k X.A) (ha : PA X (e :: es) t) (hg : Gl X x := by rfl)
    (hdb : (x == ("__debug__" : Str)) = false := by decide) (he : starEach (e :: es) X.env = (false, eval e X.env) :: starEach es X.env := by rfl) (hpl : (backTo pos (starEach es X.env)).any (·.1) = false := by rfl) :
    PE X (.Call (.Name x p) (e :: es) [] pos) (tCall sp [] E0 t) := by
  obtain ⟨f, fd, F1, g, kp, b⟩ := F.ex
  exact pe_call F1 hr hg g kp b .nil pass0 ha hdb he hpl
abbrev FnP (K : PySem.W.Frag) (x : Str) (st : Stmt) (f : Addr) (fd : FuncData) : Prop := FunD K x x (defArgs st) (defBody st) (defScope st) [] [] f fd
end Px
set_option Elab.async false
set_option linter.all false
set_option maxRecDepth 100000
set_option maxHeartbeats 4000000
namespace Px
open PySem L2
theorem cm {i j : Int} (h : -(2 ^ 200) < i ∧ i < 2 ^ 200 ∧ -(2 ^ 200) < j ∧ j < 2 ^ 200) : CMulW i j := by
  refine wide_mul (a := 200) (b := 200) ?_ ?_ (by decide) (by decide) (by decide)
  · have : i.natAbs < 2 ^ 200 := by omega
    exact this
  · have : j.natAbs < 2 ^ 200 := by omega
    exact this
theorem cd {i j : Int} (h : 0 < j ∧ j < 2 ^ 200) : CDivW i j := by
  refine wide_div (b := 200) h.1 ?_ (by decide) (by decide)
  have : j.natAbs < 2 ^ 200 := by omega
  exact this
theorem cp {i j : Int} (h : 0 ≤ j ∧ j ≤ 1000 ∧ -(2 ^ 60) < i ∧ i < 2 ^ 60) : CPow i j := by
  refine ⟨h.1, ?_, ?_⟩
  · omega
  · have : i.natAbs < 2 ^ 64 := by omega
    exact this
theorem fg_body {t : TS} {D : Ends} {σ : L2.St} {H : Hp} (h : t { nx := fun σ' H' => ∃ H'', Fg H H' H'' ∧ D.nx σ' H'', rt := fun v H' => ∃ H'', Fg H H' H'' ∧ D.rt v H'', bk := fun σ' H' => ∃ H'', Fg H H' H'' ∧ D.bk σ' H'', ct := fun σ' H' => ∃ H'', Fg H H' H'' ∧ D.ct σ' H'' } σ H) : sFg t D σ H := h
theorem upd_self {H : Hp} {a : Addr} {o : HO} (h : H a = some o) : upd H a o = H := by
  funext b
  unfold upd
  split
  · rename_i e; rw [e, h]
  · rfl
theorem upd_comm {H : Hp} {a b : Addr} {o u : HO} (h : a ≠ b) : upd (upd H a o) b u = upd (upd H b u) a o := by
  funext c
  unfold upd
  by_cases h1 : c = b
  · rw [if_pos h1, if_neg (by rw [h1]; exact Ne.symm h), if_pos h1]
  · rw [if_neg h1, if_neg h1]
theorem dp_ints {K : PySem.W.Frag} {H : Hp} : ∀ ns : List Int, DpAll K H (ns.map V.int) (ns.map PyData.int)
  | [] => .nil
  | n :: r => .cons (.int n) (dp_ints r)
theorem lay_ints : ∀ ns : List Int, PyData.canLayAll0 (ns.map PyData.int) = true
  | [] => by simp [PyData.canLayAll0]
  | n :: r => by simp [PyData.canLayAll0, PyData.canLay0, lay_ints r]
theorem dep_ints : ∀ ns : List Int, PyData.depthAll (ns.map PyData.int) = 0
  | [] => by simp [PyData.depthAll]
  | n :: r => by simp [PyData.depthAll, PyData.depth, dep_ints r]
theorem shaped_ints (ns : List Int) : SeqAt.shaped (.list (ns.map PyData.int)) = true := by
  unfold SeqAt.shaped
  rw [PyData.canLay0, lay_ints, PyData.depth, dep_ints]
  decide
theorem shaped_nil : SeqAt.shaped (.list []) = true := shaped_ints []
theorem eqv_ints : ∀ ns ms : List Int, PyData.eqvAll (ns.map PyData.int) (ms.map PyData.int) = decide (ns = ms)
  | [], [] => by simp [PyData.eqvAll]
  | [], m :: ms => by simp [PyData.eqvAll]
  | n :: ns, [] => by simp [PyData.eqvAll]
  | n :: ns, m :: ms => by
    simp only [List.map_cons, PyData.eqvAll, PyData.eqv, eqv_ints ns ms]
    by_cases h : n = m
    · subst h; by_cases h2 : ns = ms
      · subst h2; simp
      · simp [h2]
    · simp [h]
section
variable {K : PySem.W.Frag} {σ : L2.St} {H : Hp} {ta tb te : TE} {a b : Addr} {ns ms : List Int}
theorem dp_lst (h : SqL K H a (ns.map V.int)) : Dp K H (.ref a) (.list (ns.map PyData.int)) := .lst h (dp_ints ns)
theorem rv_eqI (ha : SqL K H a (ns.map V.int)) (hb : SqL K H b (ms.map V.int)) : RV (rEqD K) (.ref a) (.ref b) H (.bl (decide (ns = ms))) := fun Q q =>
  ⟨_, _, dp_lst ha, dp_lst hb, shaped_ints ns, shaped_ints ms, by rw [PyData.eqv, eqv_ints]; exact q⟩
theorem rv_neI (ha : SqL K H a (ns.map V.int)) (hb : SqL K H b (ms.map V.int)) : RV (rNeD K) (.ref a) (.ref b) H (.bl (!decide (ns = ms))) := fun Q q =>
  ⟨_, _, dp_lst ha, dp_lst hb, shaped_ints ns, shaped_ints ms, by rw [PyData.eqv, eqv_ints]; exact q⟩
/-- xs == [] and xs != [], the empty list made on the way -/
theorem et_isnil [Nod H] (hx : SqL K H a (ns.map V.int)) (ha : Ev ta σ H (.ref a)) : EvT (bFg (tTest (tOp (rEqD K) ta (tLst tNil)))) σ H (decide (ns = [])) :=
  et_fg fun Q q => ha _ (el_nil _ fun p hp => rv_eqI (ms := []) (sq_new hp hx) sq_up _ ⟨_, rfl, q _ (ex_new hp)⟩)
theorem et_nonil [Nod H] (hx : SqL K H a (ns.map V.int)) (ha : Ev ta σ H (.ref a)) : EvT (bFg (tTest (tOp (rNeD K) ta (tLst tNil)))) σ H (!decide (ns = [])) :=
  et_fg fun Q q => ha _ (el_nil _ fun p hp => rv_neI (ms := []) (sq_new hp hx) sq_up _ ⟨_, rfl, q _ (ex_new hp)⟩)
/-- a list made on the way, == [] and != [] -/
theorem et_isnilN [Nod H] (h : EvL ta σ H (ns.map V.int)) : EvT (bFg (tTest (tOp (rEqD K) ta (tLst tNil)))) σ H (decide (ns = [])) :=
  et_fg fun Q q => h _ fun r hr => el_nil _ fun p hp => rv_eqI (ms := []) (sq_new hp sq_up) sq_up _ ⟨_, rfl, q _ (ex_upd (none_upd hp).1 (ex_new hr))⟩
theorem et_nonilN [Nod H] (h : EvL ta σ H (ns.map V.int)) : EvT (bFg (tTest (tOp (rNeD K) ta (tLst tNil)))) σ H (!decide (ns = [])) :=
  et_fg fun Q q => h _ fun r hr => el_nil _ fun p hp => rv_neI (ms := []) (sq_new hp sq_up) sq_up _ ⟨_, rfl, q _ (ex_upd (none_upd hp).1 (ex_new hr))⟩
/-- a call of a def that leaves the heap as it is -/
theorem ev_call {sp : Sp} {vs : List V} {v : V} {E : XK} {t : TA} (h : EvA t σ H vs) (hs : ∀ Q : VK, Q v H → sp vs H Q E) : Ev (tCall sp [] E t) σ H v := fun Q q => h _ (by
  show sp (vs ++ []) H Q E
  rw [List.append_nil]
  exact hs Q q)
theorem el_call {sp : Sp} {vs xs : List V} {E : XK} {t : TA} (h : EvA t σ H vs) (hs : ∀ Q : VK, (∀ p, H p = none → Q (.ref p) (upd H p (.lst xs))) → sp vs H Q E) : EvL (tCall sp [] E t) σ H xs := fun Q q => h _ (by
  show sp (vs ++ []) H Q E
  rw [List.append_nil]
  exact hs Q q)
theorem w_call {sp : Sp} {vs : List V} {E : XK} {t : TA} {Q : VK} (h : EvA t σ H vs) (hs : sp vs H Q E) : tCall sp [] E t σ H Q := h _ (by
  show sp (vs ++ []) H Q E
  rw [List.append_nil]
  exact hs)
end
end Px
set_option Elab.async false
set_option linter.all false
set_option maxRecDepth 100000
set_option maxHeartbeats 4000000
namespace Px
open PySem L2
section
variable {K : PySem.W.Frag} {σ : L2.St} {H : Hp} {ta tb te : TE} {l b : Addr} {ns ms : List Int} {x : Int} {D : Ends} {s2 : TS}
theorem sz (n : Nat) (h : n < 16000000) : n < sizeLine := Nat.lt_of_lt_of_le h (by decide)
theorem s_appI (hz : ns.length < 16000000) (ha : Ev ta σ (upd H l (.lst (ns.map V.int))) (.ref l)) (h : Ev te σ (upd H l (.lst (ns.map V.int))) (.int x)) (k : D.nx σ (upd H l (.lst ((ns ++ [x]).map V.int)))) : tDrop (tBM K "list" rAppend ta (tCons te tNil)) D σ (upd H l (.lst (ns.map V.int))) :=
  s_app upd_same (by rw [List.length_map]; exact sz _ hz) ha h (by rw [upd_upd]; rw [List.map_append] at k; exact k)
theorem q_appI (hz : ns.length < 16000000) (ha : Ev ta σ (upd H l (.lst (ns.map V.int))) (.ref l)) (h : Ev te σ (upd H l (.lst (ns.map V.int))) (.int x)) (k : s2 D σ (upd H l (.lst ((ns ++ [x]).map V.int)))) : tSeq (tDrop (tBM K "list" rAppend ta (tCons te tNil))) s2 D σ (upd H l (.lst (ns.map V.int))) :=
  s_appI (D := { D with nx := s2 D }) hz ha h k
theorem s_retW {D : Ends} (h : te σ H D.rt) : tRet te D σ H := h
theorem w_op {r : R2} {Q : VK} (h : ta σ H fun x H1 => tb σ H1 fun y H2 => r x y H2 Q) : tOp r ta tb σ H Q := h
theorem w_cb {r : List V → Hp → VK → Prop} {t : TA} {Q : VK} (h : t σ H fun vs H1 => r vs H1 Q) : tCB r t σ H Q := h
theorem w_cons {t : TA} {Q : List V → Hp → Prop} (h : ta σ H fun x H1 => t σ H1 fun xs H2 => Q (x :: xs) H2) : tCons ta t σ H Q := h
theorem w_one {Q : List V → Hp → Prop} (h : ta σ H fun x H1 => Q [x] H1) : tCons ta tNil σ H Q := h
theorem w_ev {v : V} {Q : VK} (h : Ev te σ H v) (q : Q v H) : te σ H Q := h Q q
theorem w_lst {t : TA} {Q : VK} (h : t σ H fun xs H1 => xs.length ≤ sizeLine ∧ ∀ p, H1 p = none → Q (.ref p) (upd H1 p (.lst xs))) : tLst t σ H Q := h
theorem w_fg {Q : VK} (h : te σ H fun v H' => ∃ H'', Fg H H' H'' ∧ Q v H'') : tFg te σ H Q := h
theorem w_pop0 {x : V} {xs : List V} {a : Addr} {Q : VK} (ha : Ev ta σ H (.ref a)) (hx : H a = some (.lst (x :: xs))) (q : Q x (upd H a (.lst xs))) : tBM K "list" rPopAt ta (tCons (tC (.int 0)) tNil) σ H Q :=
  ha _ ⟨.inl ⟨rfl, _, sq_at hx⟩, a, x :: xs, 0, 0, x, rfl, rfl, hx, by decide, by decide, by unfold seqIndex?; simp, rfl, q⟩
theorem fg_newL {H H' : Hp} {p : Addr} {xs : List V} [n : Nod H] (hp : H p = none) (e : Ex H H') (h : H' p = some (.lst xs)) : Fg H H' (upd H p (.lst xs)) := fg_new trivial hp e h
theorem fg_mutL {H H' : Hp} {p : Addr} {xs ys : List V} [n : Nod H] (hp : H p = some (.lst xs)) (e : ∀ a u, a ≠ p → H a = some u → H' a = some u) (h : H' p = some (.lst ys)) : Fg H H' (upd H p (.lst ys)) := fg_mut trivial hp e h
theorem fg_mut_newL {H H' : Hp} {l p : Addr} {xs ys zs : List V} [n : Nod H] (hl : H l = some (.lst xs)) (hp : H p = none) (e : ∀ a u, a ≠ l → H a = some u → H' a = some u) (h : H' l = some (.lst ys)) (h2 : H' p = some (.lst zs)) : Fg H H' (upd (upd H l (.lst ys)) p (.lst zs)) := fg_mut_new trivial trivial hl hp e h h2
theorem cutV_int (ns : List Int) (lo hi : Option Int) : cutV (ns.map V.int) lo hi = ((ns.drop (HT.sIx ns.length 0 lo)).take (HT.sIx ns.length ns.length hi - HT.sIx ns.length 0 lo)).map V.int := by
  unfold cutV
  rw [List.length_map, List.map_take, List.map_drop]
theorem cut_to (ns : List Int) (k : Nat) : cutV (ns.map V.int) none (some (k : Int)) = (ns.take k).map V.int := by
  rw [cutV_int, HT.sIx_none, HT.sIx_nat]
  simp
theorem cut_from (ns : List Int) (k : Nat) : cutV (ns.map V.int) (some (k : Int)) none = (ns.drop k).map V.int := by
  rw [cutV_int, HT.sIx_none, HT.sIx_nat]
  by_cases h : k ≤ ns.length
  · rw [show min k ns.length = k by omega, List.take_of_length_le (by simp)]
  · rw [show min k ns.length = ns.length by omega, List.drop_of_length_le (Nat.le_refl _), List.drop_of_length_le (by omega)]
    simp
end
end Px
set_option Elab.async false
set_option linter.all false
set_option maxRecDepth 100000
set_option maxHeartbeats 4000000
namespace Px
open PySem L2
/-- what a for asks, once what it walks is known -/
def Lp (J : It) (g : TG) (tb : TS) (D : Ends) (σ : L2.St) (H1 : Hp) : Prop := ∃ W : Nat → Nat → L2.St → Hp → Prop, (∃ m, W 0 m σ H1) ∧ ∀ i m σ H, W i m σ H →
  (J.stop i H ∧ D.nx σ H) ∨ (J.go i H ∧ ∃ N : L2.St → Hp → Prop, (∀ σ' H', N σ' H' → ∃ m', m' < m ∧ W (i + 1) m' σ' H') ∧ ∀ x H', J.yld i H x H' → g x σ H' fun σ2 H2 => tb { D with nx := N, ct := N, bk := D.nx } σ2 H2)
section
variable {K : PySem.W.Frag} {σ : L2.St} {H : Hp} {D : Ends} {g : TG} {tu s2 : TS} {n : Nat}
theorem w_forR1 {ta : TA} (h : ta σ H fun vs H1 => ∃ j : Int, vs = [.int j] ∧ -(2 ^ 62) ≤ j ∧ j < 2 ^ 62 ∧ Lp (Itr 0 j.toNat) g tu D σ H1) : tFor (iRng1 ta) g tu D σ H := h
theorem w_forR2 {ta : TA} (h : ta σ H fun vs H1 => ∃ i j : Int, vs = [.int i, .int j] ∧ (-(2 ^ 62) ≤ i ∧ i < 2 ^ 62 ∧ -(2 ^ 62) ≤ j ∧ j < 2 ^ 62) ∧ Lp (Itr i (j - i).toNat) g tu D σ H1) : tFor (iRng2 ta) g tu D σ H := h
theorem w_forL {tl : TE} (h : tl σ H fun x H1 => ∃ a, x = .ref a ∧ (∃ xs, SqL K H1 a xs) ∧ Lp (Itl K a) g tu D σ H1) : tFor (iList K tl) g tu D σ H := h
theorem w_forT {tl : TE} (h : tl σ H fun x H1 => ∃ a, x = .ref a ∧ (∃ xs, SqT K H1 a xs) ∧ Lp (Itt K a) g tu D σ H1) : tFor (iTup K tl) g tu D σ H := h
theorem w_forE {ta : TA} (h : ta σ H fun vs H1 => ∃ a xs, vs = [.ref a] ∧ SqL K H1 a xs ∧ Lp (Ite K a) g tu D σ H1) : tFor (iEnum K ta) g tu D σ H := h
theorem w_forZ {ta : TA} (h : ta σ H fun vs H1 => ∃ a b xs ys, vs = [.ref a, .ref b] ∧ SqL K H1 a xs ∧ SqL K H1 b ys ∧ Lp (Itz K a b) g tu D σ H1) : tFor (iZip K ta) g tu D σ H := h
theorem lp_range {k : Nat} (Pv : Nat → L2.St → Hp → Prop) (h0 : Pv 0 σ H)
    (hs : ∀ (i : Nat) σ' H', i < k → Pv i σ' H' → tu { D with nx := Pv (i + 1), ct := Pv (i + 1), bk := D.nx } (σ'.set n (some (.int (i : Int)))) H') (hd : ∀ σ' H', Pv k σ' H' → D.nx σ' H') : Lp (Itr 0 k) (gName n) tu D σ H :=
  for_range (lo := 0) (n := k) Pv h0 (fun i σ' H' hi p => by
    show tu { D with nx := Pv (i + 1), ct := Pv (i + 1), bk := D.nx } (σ'.set n (some (.int ((0 : Int) + (i : Int))))) H'
    rw [Int.zero_add]
    exact hs i σ' H' hi p) hd
theorem lp_list {a : Addr} {xs : List V} (Pv : Nat → L2.St → Hp → Prop) (h0 : Pv 0 σ H) (hl : ∀ i σ' H', i ≤ xs.length → Pv i σ' H' → SqL K H' a xs)
    (hs : ∀ i x σ' H', xs[i]? = some x → Pv i σ' H' → g x σ' H' fun σ2 H2 => tu { D with nx := Pv (i + 1), ct := Pv (i + 1), bk := D.nx } σ2 H2) (hd : ∀ σ' H', Pv xs.length σ' H' → D.nx σ' H') : Lp (Itl K a) g tu D σ H := for_list Pv h0 hl hs hd
theorem lp_tup {a : Addr} {xs : List V} (Pv : Nat → L2.St → Hp → Prop) (h0 : Pv 0 σ H) (hl : ∀ i σ' H', i ≤ xs.length → Pv i σ' H' → SqT K H' a xs)
    (hs : ∀ i x σ' H', xs[i]? = some x → Pv i σ' H' → g x σ' H' fun σ2 H2 => tu { D with nx := Pv (i + 1), ct := Pv (i + 1), bk := D.nx } σ2 H2) (hd : ∀ σ' H', Pv xs.length σ' H' → D.nx σ' H') : Lp (Itt K a) g tu D σ H := for_tup Pv h0 hl hs hd
/-- for k, x in enumerate(xs): two names -/
theorem lp_enum {a : Addr} {xs : List V} {n1 n2 : Nat} (Pv : Nat → L2.St → Hp → Prop) (h0 : Pv 0 σ H) (hl : ∀ i σ' H', i ≤ xs.length → Pv i σ' H' → SqL K H' a xs)
    (hs : ∀ i x σ' H' T, xs[i]? = some x → Pv i σ' H' → H' T = none → tu { D with nx := Pv (i + 1), ct := Pv (i + 1), bk := D.nx } ((σ'.set n1 (some (.int (i : Int)))).set n2 (some x)) (upd H' T (.tup [.int (i : Int), x]))) (hd : ∀ σ' H', Pv xs.length σ' H' → D.nx σ' H') :
    Lp (Ite K a) (gTup K 2 (gCons (gName n1) (gCons (gName n2) gNil))) tu D σ H :=
  for_it (walk_enum (K := K) (a := a) (xs := xs)) Pv h0 hl (fun i v σ' H' H'' hi p y => by
    obtain ⟨T, x, y, rfl, hT, rfl, e1, e2⟩ := y
    cases e1
    exact ⟨T, _, rfl, st_at upd_same, rfl, _, _, rfl, _, _, rfl, rfl, hs i y σ' H' T e2 p hT⟩) hd
/-- for x, y in zip(xs, ys): two names -/
theorem lp_zip {a b : Addr} {xs ys : List V} {n1 n2 : Nat} (Pv : Nat → L2.St → Hp → Prop) (h0 : Pv 0 σ H) (hl : ∀ i σ' H', i ≤ min xs.length ys.length → Pv i σ' H' → SqL K H' a xs ∧ SqL K H' b ys)
    (hs : ∀ i x y σ' H' T, xs[i]? = some x → ys[i]? = some y → Pv i σ' H' → H' T = none → tu { D with nx := Pv (i + 1), ct := Pv (i + 1), bk := D.nx } ((σ'.set n1 (some x)).set n2 (some y)) (upd H' T (.tup [x, y]))) (hd : ∀ σ' H', Pv (min xs.length ys.length) σ' H' → D.nx σ' H') :
    Lp (Itz K a b) (gTup K 2 (gCons (gName n1) (gCons (gName n2) gNil))) tu D σ H :=
  for_it (walk_zip (K := K) (a := a) (b := b) (xs := xs) (ys := ys) rfl) Pv h0 hl (fun i v σ' H' H'' hi p y => by
    obtain ⟨T, x, y, rfl, hT, rfl, e1, e2⟩ := y
    exact ⟨T, _, rfl, st_at upd_same, rfl, _, _, rfl, _, _, rfl, rfl, hs i x y σ' H' T e1 e2 p hT⟩) hd
end
end Px
set_option Elab.async false
set_option linter.all false
set_option maxRecDepth 100000
set_option maxHeartbeats 4000000
namespace Px
open PySem L2
def pV (p : Int → Bool) : V → Bool
  | .int i => p i
  | _ => false
def fV (f : Int → Int) : V → V
  | .int i => .int (f i)
  | v => v
theorem filt_int (p : Int → Bool) (f : Int → Int) (ns : List Int) : ((ns.map V.int).filter (pV p)).map (fV f) = ((ns.filter p).map f).map V.int := by
  induction ns with
  | nil => rfl
  | cons a l ih =>
    simp only [List.map_cons, List.filter_cons]
    show (List.map (fV f) (if pV p (V.int a) = true then V.int a :: List.filter (pV p) (l.map V.int) else List.filter (pV p) (l.map V.int))) = _
    have e : pV p (V.int a) = p a := rfl
    rw [e]
    by_cases h : p a = true
    · rw [if_pos h, if_pos h]
      simp only [List.map_cons, ih]
      rfl
    · rw [if_neg h, if_neg h]
      exact ih
section
variable {K : PySem.W.Frag} {σ : L2.St} {H : Hp} {tl te : TE} {t : TT} {n : Nat}
theorem mem_int {ns : List Int} {x : V} (h : x ∈ ns.map V.int) : ∃ i ∈ ns, x = .int i := by
  obtain ⟨i, hi, rfl⟩ := List.mem_map.mp h
  exact ⟨i, hi, rfl⟩
/-- [f(i) for i in ns if p(i)], ints to ints -/
theorem el_lcI {a : Addr} {ns : List Int} {vs : List Nat} (p : Int → Bool) (f : Int → Int) (h : Ev tl σ H (.ref a)) (hx : SqL K H a (ns.map V.int)) (hz : ns.length ≤ 16000000) (hw : ∀ x, wipe ((wipe σ vs).set n (some x)) vs = wipe σ vs)
    (ht : ∀ i ∈ ns, ∀ D acc, H D = none → EvT t ((wipe σ vs).set n (some (.int i))) (upd H D (.lst acc)) (p i)) (he : ∀ i ∈ ns, p i = true → ∀ D acc, H D = none → Ev te ((wipe σ vs).set n (some (.int i))) (upd H D (.lst acc)) (.int (f i))) :
    EvL (tLc (iList K tl) (gName n) t te vs) σ H (((ns.filter p).map f).map V.int) := by
  rw [← filt_int]
  refine el_lc (pV p) (fV f) h hx (by rw [List.length_map]; exact Nat.le_trans hz (by decide)) hw (fun x hx D acc hD => ?_) (fun x hx hp D acc hD => ?_)
  · obtain ⟨i, hi, rfl⟩ := mem_int hx
    exact ht i hi D acc hD
  · obtain ⟨i, hi, rfl⟩ := mem_int hx
    exact he i hi hp D acc hD
theorem el_lcIN [Nod H] {ns : List Int} {vs : List Nat} (p : Int → Bool) (f : Int → Int) (h : EvL tl σ H (ns.map V.int)) (hz : ns.length ≤ 16000000) (hw : ∀ x, wipe ((wipe σ vs).set n (some x)) vs = wipe σ vs)
    (ht : ∀ i ∈ ns, ∀ q D acc, H q = none → H D = none → q ≠ D → EvT t ((wipe σ vs).set n (some (.int i))) (upd (upd H q (.lst (ns.map V.int))) D (.lst acc)) (p i)) (he : ∀ i ∈ ns, p i = true → ∀ q D acc, H q = none → H D = none → q ≠ D → Ev te ((wipe σ vs).set n (some (.int i))) (upd (upd H q (.lst (ns.map V.int))) D (.lst acc)) (.int (f i))) :
    EvL (tFg (tLc (iList K tl) (gName n) t te vs)) σ H (((ns.filter p).map f).map V.int) := by
  rw [← filt_int]
  refine el_lcN (pV p) (fV f) h (by rw [List.length_map]; exact Nat.le_trans hz (by decide)) hw (fun x hx q D acc hq hD hn => ?_) (fun x hx hp q D acc hq hD hn => ?_)
  · obtain ⟨i, hi, rfl⟩ := mem_int hx
    exact ht i hi q D acc hq hD hn
  · obtain ⟨i, hi, rfl⟩ := mem_int hx
    exact he i hi hp q D acc hq hD hn
/-- a call whose first argument is a new list -/
theorem ev_callL [Nod H] {sp : Sp} {xs vs : List V} {v : V} {E : XK} {ta : TA} (h : EvL tl σ H xs) (ha : ∀ p, H p = none → EvA ta σ (upd H p (.lst xs)) vs) (hs : ∀ p, H p = none → ∀ Q : VK, Q v (upd H p (.lst xs)) → sp (.ref p :: vs) (upd H p (.lst xs)) Q E) : Ev (tFg (tCall sp [] E (tCons tl ta))) σ H v :=
  ev_fg fun Q q => h _ fun p hp => ha p hp _ (by
    show sp (.ref p :: vs ++ []) _ _ E
    rw [List.append_nil]
    exact hs p hp _ (q _ (ex_new hp)))
theorem ex_ne {H H' : Hp} {p : Addr} {xs : List V} {o : HO} (hp : H p = none) (e : Ex H H') : Ex H (upd H' p o) := ex_upd hp e
end
end Px
set_option linter.all false
set_option maxHeartbeats 1000000
namespace MS
/-! ### sorting -/
def srt (l : List Int) : List Int := l.mergeSort (fun a b => decide (a ≤ b))
theorem srt_pair (l : List Int) : (srt l).Pairwise (· ≤ ·) := by
  have h := List.pairwise_mergeSort (le := fun a b : Int => decide (a ≤ b)) (fun a b c h1 h2 => by simp at *; omega) (fun a b => by simp; omega) l
  exact h.imp (fun h => by simpa using h)
theorem srt_perm (l : List Int) : (srt l).Perm l := List.mergeSort_perm l _
theorem srt_eq {l l' : List Int} (p : l'.Perm l) (s : l'.Pairwise (· ≤ ·)) : l' = srt l :=
  (p.trans (srt_perm l).symm).eq_of_pairwise (fun a b _ _ h1 h2 => by omega) s (srt_pair l)
theorem srt_len (l : List Int) : (srt l).length = l.length := (srt_perm l).length_eq
/-! ### the greatest power of 3 -/
def p3 (n p : Nat) : Nat := if h : 0 < p ∧ 3 * p ≤ n then p3 n (3 * p) else p
termination_by n - p
decreasing_by omega
theorem p3_spec (n : Nat) : ∀ p k, p = 3 ^ k → p ≤ n → ∃ j, p3 n p = 3 ^ j ∧ 3 ^ j ≤ n ∧ n < 3 ^ (j + 1) := by
  intro p
  induction p using p3.induct n with
  | case1 p h ih =>
    intro k e hp
    rw [p3, dif_pos h]
    exact ih (k + 1) (by rw [e, Nat.pow_succ]; omega) h.2
  | case2 p h =>
    intro k e hp
    rw [p3, dif_neg h]
    have hp0 : 0 < p := by rw [e]; exact Nat.pow_pos (by omega)
    refine ⟨k, e, by omega, ?_⟩
    rw [Nat.pow_succ, ← e]
    omega
def top3 (n : Nat) : Nat := p3 n 1
theorem top3_spec {n : Nat} (h : 0 < n) : ∃ j, top3 n = 3 ^ j ∧ 3 ^ j ≤ n ∧ n < 3 ^ (j + 1) := p3_spec n 1 0 rfl h
theorem top3_pos {n : Nat} (h : 0 < n) : 0 < top3 n := by
  obtain ⟨j, e, _⟩ := top3_spec h
  rw [e]; exact Nat.pow_pos (by omega)
theorem top3_le {n : Nat} (h : 0 < n) : top3 n ≤ n := by
  obtain ⟨j, e, l, _⟩ := top3_spec h
  rw [e]; exact l
theorem pow3_odd (j : Nat) : 3 ^ j % 2 = 1 := by
  induction j with
  | zero => rfl
  | succ j ih => rw [Nat.pow_succ]; omega
theorem top3_odd {n : Nat} (h : 0 < n) : top3 n % 2 = 1 := by
  obtain ⟨j, e, _⟩ := top3_spec h
  rw [e]; exact pow3_odd j
theorem top3_lt {n : Nat} (h : 0 < n) : n < 3 * top3 n := by
  obtain ⟨j, e, _, l⟩ := top3_spec h
  rw [e]; rw [Nat.pow_succ] at l; omega
/-! ### the sum -/
def sums (n : Nat) : List Nat :=
  if h0 : n = 0 then [] else if h : n % 2 = 0 then (sums (n / 2)).map (2 * ·) else top3 n :: sums (n - top3 n)
termination_by n
decreasing_by
  · omega
  · have := top3_pos (n := n) (by omega); omega
theorem sums_0 : sums 0 = [] := by rw [sums]; rfl
theorem sums_even {n : Nat} (h0 : n ≠ 0) (h : n % 2 = 0) : sums n = (sums (n / 2)).map (2 * ·) := by rw [sums, dif_neg h0, dif_pos h]
theorem sums_odd {n : Nat} (h : n % 2 = 1) : sums n = top3 n :: sums (n - top3 n) := by rw [sums, dif_neg (by omega), dif_neg (by omega)]
theorem sums_sum : ∀ n, (sums n).sum = n := by
  intro n
  induction n using Nat.strongRecOn with
  | ind n ih =>
    by_cases h0 : n = 0
    · subst h0; rw [sums_0]; rfl
    by_cases h : n % 2 = 0
    · rw [sums_even h0 h]
      have : ∀ l : List Nat, (l.map (2 * ·)).sum = 2 * l.sum := fun l => by
        induction l with
        | nil => rfl
        | cons a l ih => simp only [List.map_cons, List.sum_cons, ih]; omega
      rw [this, ih _ (by omega)]; omega
    · have h1 := top3_pos (n := n) (by omega)
      have h2 := top3_le (n := n) (by omega)
      rw [sums_odd (by omega), List.sum_cons, ih _ (by omega)]; omega
theorem sums_made : ∀ n, ∀ x ∈ sums n, ∃ a b, x = 2 ^ a * 3 ^ b := by
  intro n
  induction n using Nat.strongRecOn with
  | ind n ih =>
    intro x hx
    by_cases h0 : n = 0
    · subst h0; rw [sums_0] at hx; cases hx
    by_cases h : n % 2 = 0
    · rw [sums_even h0 h] at hx
      obtain ⟨y, hy, rfl⟩ := List.mem_map.mp hx
      obtain ⟨a, b, rfl⟩ := ih _ (by omega) y hy
      exact ⟨a + 1, b, by rw [Nat.pow_succ]; simp only [Nat.mul_assoc, Nat.mul_comm, Nat.mul_left_comm]⟩
    · have h1 := top3_pos (n := n) (by omega)
      rw [sums_odd (by omega)] at hx
      rcases List.mem_cons.mp hx with rfl | hx
      · obtain ⟨j, e, _⟩ := top3_spec (n := n) (by omega)
        exact ⟨0, j, by rw [e]; simp⟩
      · exact ih _ (by omega) x hx
theorem sums_le : ∀ n, ∀ x ∈ sums n, x ≤ n := by
  intro n x hx
  have h := sums_sum n
  have : ∀ l : List Nat, x ∈ l → x ≤ l.sum := fun l hl => by
    induction l with
    | nil => cases hl
    | cons a l ih =>
      rw [List.sum_cons]
      rcases List.mem_cons.mp hl with rfl | hl
      · omega
      · have := ih hl; omega
  have := this _ hx; omega
theorem sums_pos : ∀ n, ∀ x ∈ sums n, 0 < x := by
  intro n x hx
  obtain ⟨a, b, rfl⟩ := sums_made n x hx
  exact Nat.mul_pos (Nat.pow_pos (by omega)) (Nat.pow_pos (by omega))
theorem sums_len : ∀ k n, n < 2 ^ k → (sums n).length ≤ k := by
  intro k
  induction k with
  | zero =>
    intro n hn
    have : n = 0 := by simpa using hn
    subst this; rw [sums_0]; simp
  | succ k ih =>
    intro n hn
    rw [Nat.pow_succ] at hn
    by_cases h0 : n = 0
    · subst h0; rw [sums_0]; simp
    by_cases h : n % 2 = 0
    · rw [sums_even h0 h, List.length_map]
      have := ih (n / 2) (by omega); omega
    · have h1 := top3_pos (n := n) (by omega)
      have h2 := top3_le (n := n) (by omega)
      have h3 := top3_odd (n := n) (by omega)
      rw [sums_odd (by omega), List.length_cons]
      by_cases h4 : n - top3 n = 0
      · rw [h4, sums_0]; simp
      · rw [sums_even h4 (by omega), List.length_map]
        have := ih ((n - top3 n) / 2) (by omega); omega
theorem half_dvd {p x : Nat} (hp : p % 2 = 1) (h : p ∣ 2 * x) : p ∣ x := by
  have c : p.Coprime 2 := by
    have : Nat.gcd p 2 = 1 := by
      rw [Nat.gcd_comm, Nat.gcd_rec, hp]
      rfl
    exact this
  exact c.dvd_of_dvd_mul_left h
/-- none parts another -/
theorem sums_apart : ∀ n, (sums n).Pairwise (fun x y => ¬ x ∣ y ∧ ¬ y ∣ x) := by
  intro n
  induction n using Nat.strongRecOn with
  | ind n ih =>
    by_cases h0 : n = 0
    · subst h0; rw [sums_0]; exact .nil
    by_cases h : n % 2 = 0
    · rw [sums_even h0 h]
      refine List.pairwise_map.mpr ((ih _ (by omega)).imp ?_)
      rintro x y ⟨h1, h2⟩
      exact ⟨fun z => h1 (Nat.dvd_of_mul_dvd_mul_left (by omega) z), fun z => h2 (Nat.dvd_of_mul_dvd_mul_left (by omega) z)⟩
    · have h1 := top3_pos (n := n) (by omega)
      have h2 := top3_le (n := n) (by omega)
      have h3 := top3_odd (n := n) (by omega)
      have h4 := top3_lt (n := n) (by omega)
      rw [sums_odd (by omega)]
      refine List.pairwise_cons.mpr ⟨fun y hy => ?_, ih _ (by omega)⟩
      have h5 : n - top3 n ≠ 0 := fun z => by rw [z, sums_0] at hy; cases hy
      rw [sums_even h5 (by omega)] at hy
      obtain ⟨x, hx, rfl⟩ := List.mem_map.mp hy
      have h6 := sums_le _ x hx
      have h7 := sums_pos _ x hx
      constructor
      · intro z
        have := Nat.le_of_dvd h7 (half_dvd h3 z)
        omega
      · intro z
        obtain ⟨c, e⟩ := z
        have e2 : top3 n = 2 * (x * c) := by rw [e, Nat.mul_assoc]
        omega
/-! ### taking a prime out -/
def strip (p n : Nat) : Nat := if h : 2 ≤ p ∧ 0 < n ∧ n % p = 0 then strip p (n / p) else n
termination_by n
decreasing_by exact Nat.div_lt_self h.2.1 (by omega)
def stripAll : List Nat → Nat → Nat
  | [], n => n
  | p :: r, n => stripAll r (strip p n)
theorem strip_yes {p n : Nat} (h1 : 2 ≤ p) (h2 : 0 < n) (h3 : n % p = 0) : strip p n = strip p (n / p) := by rw [strip, dif_pos ⟨h1, h2, h3⟩]
theorem strip_no {p n : Nat} (h3 : n % p ≠ 0) : strip p n = n := by rw [strip, dif_neg (fun h => h3 h.2.2)]
theorem strip_mul {p m : Nat} (hp : 2 ≤ p) (hm : 0 < m) (a : Nat) : strip p (p ^ a * m) = strip p m := by
  induction a with
  | zero => simp
  | succ a ih =>
    have e : p ^ (a + 1) * m = p * (p ^ a * m) := by rw [Nat.pow_succ]; simp only [Nat.mul_assoc, Nat.mul_comm, Nat.mul_left_comm]
    rw [e, strip_yes hp (Nat.mul_pos (by omega) (Nat.mul_pos (Nat.pow_pos (by omega)) hm)) (Nat.mul_mod_right _ _), Nat.mul_div_cancel_left _ (by omega)]
    exact ih
theorem strip_pow {p : Nat} (hp : 2 ≤ p) (a : Nat) : strip p (p ^ a) = 1 := by
  have := strip_mul (m := 1) hp (by omega) a
  rw [Nat.mul_one] at this
  rw [this]
  exact strip_no (by rw [Nat.mod_eq_of_lt (by omega)]; omega)
theorem made23 (a b : Nat) : stripAll [2, 3] (2 ^ a * 3 ^ b) = 1 := by
  show strip 3 (strip 2 (2 ^ a * 3 ^ b)) = 1
  rw [strip_mul (by omega) (Nat.pow_pos (by omega)), strip_no (n := 3 ^ b) (by have := pow3_odd b; omega)]
  exact strip_pow (by omega) b
theorem strip_pos {p n : Nat} (h : 0 < n) : 0 < strip p n := by
  induction n using Nat.strongRecOn with
  | ind n ih =>
    rw [strip]
    split
    · rename_i hc
      refine ih _ (Nat.div_lt_self hc.2.1 (by omega)) ?_
      have := Nat.div_add_mod n p
      have h1 : n / p ≠ 0 := fun z => by rw [z, hc.2.2] at this; omega
      exact Nat.pos_of_ne_zero h1
    · exact h
end MS
set_option Elab.async false
set_option linter.all false
set_option maxRecDepth 100000
set_option maxHeartbeats 4000000
namespace Px
open PySem L2 MS
/-! ### draws -/
def DrOk (ds : List Int) : Prop := ds.length ≤ 240 ∧ ∀ d ∈ ds, 0 ≤ d ∧ d < 1000
def sp_law_draws (K : PySem.W.Frag) : Sp := fun vs H Q _ => Nod H ∧ ∃ (a : Addr) (ns : List Int), vs = [.ref a] ∧ SqL K H a (ns.map V.int) ∧ ns.length ≤ 63 ∧
  ∀ (p : Addr) (ds : List Int), H p = none → DrOk ds → Q (.ref p) (upd H p (.lst (ds.map V.int)))
def sp_law_take (K : PySem.W.Frag) : Sp := fun vs H Q _ => Nod H ∧ ∃ (a : Addr) (ds : List Int) (m : Int), vs = [.ref a, .int m] ∧ H a = some (.lst (ds.map V.int)) ∧ DrOk ds ∧ 0 < m ∧
  ∀ (r : Int) (ds' : List Int), 0 ≤ r → r < m → DrOk ds' → Q (.int r) (upd H a (.lst (ds'.map V.int)))
/-- slots: script draws k rest stir many -/
def t_law_draws (K : PySem.W.Frag) : TS := (sFg (tSeq (tAsg (tLst tNil) (gName 1))
  (tSeq (tFor (iRng1 (tCons (tCB cMin (tCons (tCB (cLen K) (tCons (tVar 0) tNil)) (tCons (tC (.int 80)) tNil))) tNil)) (gName 2) (tSeq (tAsg (tCB cAbs (tCons (tOp (rIxL K) (tVar 0) (tVar 2)) tNil)) (gName 3))
  (tIfS (tTest (tOp oLt (tVar 3) (tOp oPow (tC (.int 10)) (tC (.int 18))))) (tSeq (tAsg (tOp oMod (tOp oMul (tOp oMod (tOp oAdd (tOp oAdd (tVar 3) (tOp oMul (tC (.int 7919)) (tVar 2))) (tC (.int 3))) (tC (.int 2147483647))) (tC (.int 48271))) (tC (.int 2147483647))) (gName 4))
  (tSeq (tAsg (tOp oMod (tOp oMul (tVar 4) (tVar 4)) (tC (.int 2147483629))) (gName 4))
  (tSeq (tDrop (tBM K "list" rAppend (tVar 1) (tCons (tOp oMod (tOp oDiv (tVar 4) (tC (.int 16))) (tC (.int 1000))) tNil)))
  (tSeq (tDrop (tBM K "list" rAppend (tVar 1) (tCons (tOp oMod (tOp oDiv (tVar 4) (tC (.int 16000))) (tC (.int 1000))) tNil)))
  (tSeq (tAsg (tOp oMod (tOp oAdd (tVar 4) (tOp oMul (tC (.int 40692)) (tOp oAdd (tVar 2) (tC (.int 7))))) (tC (.int 2147483587))) (gName 4))
  (tDrop (tBM K "list" rAppend (tVar 1) (tCons (tOp oMod (tOp oDiv (tOp oMod (tOp oMul (tVar 4) (tVar 4)) (tC (.int 2147483647))) (tC (.int 16))) (tC (.int 1000))) tNil)))))))) (tSeq (tAsg (tC (.int 0)) (gName 5))
  (tWhile (tAnd (tTest (tOp oGe (tVar 3) (tC (.int 1000)))) (tTest (tOp oLt (tVar 5) (tC (.int 60))))) (tSeq (tDrop (tBM K "list" rAppend (tVar 1) (tCons (tOp oMod (tVar 3) (tC (.int 1000))) tNil)))
  (tSeq (tAsg (tOp oDiv (tVar 3) (tC (.int 1000))) (gName 3))
  (tAsg (tOp oAdd (tVar 5) (tC (.int 1))) (gName 5)))))))))
  (tRet (tSl (rSlL K) (tVar 1) tNoPart (tPart (tC (.int 240))))))))
/-- slots: draws many -/
def t_law_take (K : PySem.W.Frag) : TS := (sFg (tSeq (tIfS (bFg (tTest (tOp (rEqD K) (tVar 0) (tLst tNil)))) (tRet (tC (.int 0))) tNext)
  (tRet (tOp oMod (tBM K "list" rPopAt (tVar 0) (tCons (tC (.int 0)) tNil)) (tVar 1)))))
theorem r_law_take {K : PySem.W.Frag} {vs : List V} {H : Hp} {Q : VK} {E : XK} (h : sp_law_take K vs H Q E) : t_law_take K { nx := fun _ H' => Q .non H', rt := Q } (start ["draws", "many"] vs) H := by
  obtain ⟨nd, a, ds, m, rfl, ha, ok, hm, q⟩ := h
  refine fg_body (q_when (et_isnil (sq_at ha) (ev_v 0)) (fun hb => ?_) (fun hb => ?_))
  · refine s_ret ev_c ⟨H, fg_same ex_refl, ?_⟩
    have e : ds = [] := of_decide_eq_true hb
    subst e
    have := q 0 [] (by omega) hm ok
    rw [upd_self ha] at this
    exact this
  · have e : ds ≠ [] := of_decide_eq_false hb
    obtain ⟨d, r, rfl⟩ := List.exists_cons_of_ne_nil e
    have hd := ok.2 d List.mem_cons_self
    refine s_retW (w_op (w_pop0 (ev_v 0) ha (w_v 1 ⟨d, m, rfl, rfl, hm, ?_⟩)))
    · refine ⟨_, fg_mutL ha (fun b u hb hu => by rw [upd_ne hb]; exact hu) upd_same, ?_⟩
      exact q _ r (Int.emod_nonneg _ (by omega)) (Int.emod_lt_of_pos _ hm) ⟨by have := ok.1; simp at this; omega, fun z hz => ok.2 z (List.mem_cons_of_mem _ hz)⟩
theorem r_law_draws {K : PySem.W.Frag} {vs : List V} {H : Hp} {Q : VK} {E : XK} (h : sp_law_draws K vs H Q E) : t_law_draws K { nx := fun _ H' => Q .non H', rt := Q } (start ["script", "draws", "k", "rest", "stir", "many"] vs) H := by
  obtain ⟨nd, a, ns, rfl, ha, hl, q⟩ := h
  refine fg_body (q_setL el_nil fun p hp => ?_)
  have ha1 : ∀ o, SqL K (upd H p o) a (ns.map V.int) := fun o => sq_new hp ha
  -- for k in range(min(len(script), 80))
  refine q_forR1 (k := (ns.length : Int)) (fun Q z => ?_) (by omega) (fun i σ' H' => ∃ (ds : List Int) (y2 y3 y4 y5 : Option V), σ' = [some (.ref a), some (.ref p), y2, y3, y4, y5] ∧ H' = upd H p (.lst (ds.map V.int)) ∧ ds.length ≤ 60 * i ∧ ∀ d ∈ ds, 0 ≤ d ∧ d < 1000)
    ⟨[], none, none, none, none, rfl, rfl, by simp, by simp⟩ (fun i σ' H' hi hv => ?_) (fun σ' H' hv => ?_)
  · refine ea_1 (ev_min (ev_len (ev_v 0) (ha1 _)) ev_c) _ ?_
    rw [List.length_map, if_neg (by omega)]
    exact z
  · obtain ⟨ds, y2, y3, y4, y5, rfl, rfl, hlen, hds⟩ := hv
    have hx : i < ns.length := by omega
    have sz : sizeLine = 16777216 := by decide
    -- rest = abs(script[k])
    refine q_set (ev_abs (ev_ixL (ev_v 0) (ev_v 2) (ha1 _) (at_of rfl (by rw [List.getElem?_map, List.getElem?_eq_getElem hx]; rfl)))) ?_
    generalize (if ns[i] < 0 then -ns[i] else ns[i]) = rest
    refine s_if (et_t (ev_lt (ev_v 3) (ev_pow ev_c ev_c (cp (by omega))))) (fun hb => ?_) (fun hb => ?_)
    · have h18 : rest < 10 ^ 18 := of_decide_eq_true hb
      have m0 : ∀ x : Int, 0 ≤ x % 1000 ∧ x % 1000 < 1000 := fun x => ⟨Int.emod_nonneg _ (by omega), Int.emod_lt_of_pos _ (by omega)⟩
      refine q_set (ev_mod (ev_mul (ev_mod (ev_add (ev_add (ev_v 3) (ev_mul ev_c (ev_v 2) (cm (by omega)))) ev_c) ev_c (by omega)) ev_c (cm (by omega))) ev_c (by omega)) ?_
      generalize hs1 : (rest + 7919 * (i : Int) + 3) % 2147483647 * 48271 % 2147483647 = st1
      have b1 : 0 ≤ st1 ∧ st1 < 2147483647 := by omega
      refine q_set (ev_mod (ev_mul (ev_v 4) (ev_v 4) (cm (by omega))) ev_c (by omega)) ?_
      generalize hs2 : st1 * st1 % 2147483629 = st2
      have b2 : 0 ≤ st2 ∧ st2 < 2147483629 := by
        rw [← hs2]
        exact ⟨Int.emod_nonneg _ (by omega), Int.emod_lt_of_pos _ (by omega)⟩
      refine q_appI (by omega) (ev_v 1) (ev_mod (ev_div (ev_v 4) ev_c (cd (by omega))) ev_c (by omega)) ?_
      refine q_appI (by simp; omega) (ev_v 1) (ev_mod (ev_div (ev_v 4) ev_c (cd (by omega))) ev_c (by omega)) ?_
      refine q_set (ev_mod (ev_add (ev_v 4) (ev_mul ev_c (ev_add (ev_v 2) ev_c) (cm (by omega)))) ev_c (by omega)) ?_
      generalize hs3 : (st2 + 40692 * ((i : Int) + 7)) % 2147483587 = st3
      have b3 : 0 ≤ st3 ∧ st3 < 2147483587 := by omega
      refine s_appI (by simp; omega) (ev_v 1) (ev_mod (ev_div (ev_mod (ev_mul (ev_v 4) (ev_v 4) (cm (by omega))) ev_c (by omega)) ev_c (cd (by omega))) ev_c (by omega)) ?_
      refine ⟨_, _, _, _, _, rfl, rfl, by simp; omega, fun d hd => ?_⟩
      simp only [List.mem_append, List.mem_singleton] at hd
      rcases hd with ((hd | rfl) | rfl) | rfl
      · exact hds d hd
      · exact m0 _
      · exact m0 _
      · exact m0 _
    · have h18 : ¬ rest < 10 ^ 18 := of_decide_eq_false hb
      refine q_set ev_c ?_
      -- while rest >= 1000 and many < 60
      refine s_while (fun m σ' H' => ∃ (es : List Int) (r : Int) (c : Nat), σ' = [some (.ref a), some (.ref p), some (.int i), some (.int r), y4, some (.int c)] ∧ H' = upd H p (.lst (es.map V.int)) ∧ m = 60 - c ∧ c ≤ 60 ∧ es.length ≤ 60 * i + c ∧ (∀ d ∈ es, 0 ≤ d ∧ d < 1000)) 60
        ⟨ds, rest, 0, rfl, rfl, rfl, by omega, by omega, hds⟩ (fun m σ' H' hw => ?_)
      obtain ⟨es, r, c, rfl, rfl, rfl, hc, hel, hes⟩ := hw
      refine ⟨_, et_and (et_t (ev_ge (ev_v 3) ev_c)) fun _ => et_t (ev_lt (ev_v 5) ev_c), fun hb => ?_, fun _ => ?_⟩
      · rw [Bool.and_eq_true, decide_eq_true_eq, decide_eq_true_eq] at hb
        refine q_appI (by omega) (ev_v 1) (ev_mod (ev_v 3) ev_c (by omega)) ?_
        refine q_set (ev_div (ev_v 3) ev_c (cd (by omega))) ?_
        refine s_set (ev_add (ev_v 5) ev_c) ⟨60 - (c + 1), by omega, es ++ [r % 1000], r / 1000, c + 1, rfl, rfl, rfl, by omega, by simp; omega, fun d hd => ?_⟩
        simp only [List.mem_append, List.mem_singleton] at hd
        rcases hd with hd | rfl
        · exact hes d hd
        · exact ⟨Int.emod_nonneg _ (by omega), Int.emod_lt_of_pos _ (by omega)⟩
      · exact ⟨es, _, _, _, _, rfl, rfl, by omega, hes⟩
  · obtain ⟨ds, y2, y3, y4, y5, rfl, rfl, hlen, hds⟩ := hv
    have hlen2 : ds.length ≤ 60 * ns.length := by simpa using hlen
    refine s_retL (el_sl (ev_v 1) eo_no (eo_is ev_c) sq_up) fun r hr => ?_
    obtain ⟨hr1, hr2⟩ := none_upd hr
    rw [show (240 : Int) = ((240 : Nat) : Int) from rfl, cut_to]
    refine ⟨_, fg_newL hr1 (ex_upd hr1 (ex_new hp)) upd_same, q r _ hr1 ⟨?_, fun d hd => hds d (List.mem_of_mem_take hd)⟩⟩
    rw [List.length_take]
    omega
end Px
set_option Elab.async false
set_option linter.all false
set_option maxRecDepth 100000
set_option maxHeartbeats 4000000
namespace Px
open PySem L2 MS
abbrev zl (l : List Nat) : List Int := l.map fun (x : Nat) => (x : Int)
def dsum (n : Nat) : List Int := (srt (zl (sums n))).reverse
/-! ### as_sum -/
def sp_as_sum (K : PySem.W.Frag) : Sp := fun vs H Q _ => Nod H ∧ ∃ n : Nat, vs = [.int (n : Int)] ∧ n < 2 ^ 100 ∧ ∀ p : Addr, H p = none → Q (.ref p) (upd H p (.lst ((dsum n).map V.int)))
/-- slots: number found times left power -/
def t_as_sum (K : PySem.W.Frag) : TS := (sFg (tSeq (tAsg (tLst tNil) (gName 1))
  (tSeq (tAsg (tC (.int 1)) (gName 2))
  (tSeq (tAsg (tVar 0) (gName 3))
  (tSeq (tWhile (tTest (tOp oGt (tVar 3) (tC (.int 0)))) (tIfS (tTest (tOp rEq (tOp oMod (tVar 3) (tC (.int 2))) (tC (.int 0)))) (tSeq (tAsg (tOp oDiv (tVar 3) (tC (.int 2))) (gName 3))
  (tAsg (tOp oMul (tC (.int 2)) (tVar 2)) (gName 2))) (tSeq (tAsg (tC (.int 1)) (gName 4))
  (tSeq (tWhile (tTest (tOp oLe (tOp oMul (tC (.int 3)) (tVar 4)) (tVar 3))) (tAsg (tOp oMul (tC (.int 3)) (tVar 4)) (gName 4)))
  (tSeq (tDrop (tBM K "list" rAppend (tVar 1) (tCons (tOp oMul (tVar 2) (tVar 4)) tNil)))
  (tAug 3 (tVar 4) (ipI fun i j => i - j)))))))
  (tRet (tFg (tRevL K (tCB (rSortedI K) (tCons (tVar 1) tNil))))))))))
theorem el_sorted {K : PySem.W.Frag} {σ : L2.St} {H : Hp} {ta : TE} {a : Addr} {ns : List Int} (ha : Ev ta σ H (.ref a)) (h : SqL K H a (ns.map V.int)) : EvL (tCB (rSortedI K) (tCons ta tNil)) σ H ((srt ns).map V.int) := fun Q q =>
  ha _ ⟨a, ns, rfl, h, fun ns' p hp hs hn => by rw [srt_eq hp hs]; exact q p hn⟩
theorem el_sortedN {K : PySem.W.Frag} {σ : L2.St} {H : Hp} [Nod H] {ta : TE} {ns : List Int} (ha : EvL ta σ H (ns.map V.int)) : EvL (tFg (tCB (rSortedI K) (tCons ta tNil))) σ H ((srt ns).map V.int) := el_fg fun Q q =>
  ha _ fun r hr => ⟨r, ns, rfl, sq_up, fun ns' p hp hs hn => by rw [srt_eq hp hs]; exact q p _ (none_upd hn).1 (ex_upd (none_upd hn).1 (ex_new hr)) upd_same⟩
theorem el_revN {K : PySem.W.Frag} {σ : L2.St} {H : Hp} [Nod H] {ta : TE} {xs : List V} (ha : EvL ta σ H xs) : EvL (tFg (tRevL K ta)) σ H xs.reverse := el_fg fun Q q =>
  ha _ fun r hr => ⟨r, xs, rfl, sq_up, fun p hn => q p _ (none_upd hn).1 (ex_upd (none_upd hn).1 (ex_new hr)) upd_same⟩
theorem zl_mul (t : Nat) (l : List Nat) : zl (l.map (t * ·)) = (zl l).map ((t : Int) * ·) := by simp [zl]
theorem r_as_sum {K : PySem.W.Frag} {vs : List V} {H : Hp} {Q : VK} {E : XK} (h : sp_as_sum K vs H Q E) : t_as_sum K { nx := fun _ H' => Q .non H', rt := Q } (start ["number", "found", "times", "left", "power"] vs) H := by
  obtain ⟨nd, n, rfl, hn, q⟩ := h
  refine fg_body (q_setL el_nil fun p hp => q_set ev_c (q_set (ev_v 0) ?_))
  refine q_while (fun m σ' H' => ∃ (f : List Nat) (t l : Nat) (y : Option V), σ' = [some (.int n), some (.ref p), some (.int t), some (.int l), y] ∧ H' = upd H p (.lst ((zl f).map V.int)) ∧ l = m ∧ f ++ (sums l).map (t * ·) = sums n ∧ t * l ≤ n ∧ 0 < t ∧ t ≤ n + 1) n
    ⟨[], 1, n, none, rfl, rfl, rfl, by simp, by omega, by omega, by omega⟩ (fun m σ' H' hw => ?_)
  obtain ⟨f, t, l, y, rfl, rfl, rfl, hf, htl, ht, ht2⟩ := hw
  have hsl := sums_len 100 n hn
  have hfl : f.length ≤ 100 := by
    have := congrArg List.length hf
    simp at this; omega
  refine ⟨_, et_t (ev_gt (ev_v 3) ev_c), fun hb => ?_, fun hb => ?_⟩
  · have hl : 0 < l := by have := of_decide_eq_true hb; omega
    have htn : t ≤ n := Nat.le_trans (Nat.le_mul_of_pos_right t hl) htl
    refine s_if (et_t (ev_eqi (ev_mod (ev_v 3) ev_c (by omega)) ev_c)) (fun hc => ?_) (fun hc => ?_)
    · have hev : l % 2 = 0 := by have := of_decide_eq_true hc; omega
      refine q_set (ev_div (ev_v 3) ev_c (cd (by omega))) (s_set (ev_mul ev_c (ev_v 2) (cm (by omega))) ?_)
      refine ⟨l / 2, by omega, f, 2 * t, l / 2, y, ?_, rfl, rfl, ?_, ?_, by omega, ?_⟩
      · simp
      · rw [← hf, sums_even (by omega) hev, List.map_map]
        congr 1
        exact List.map_congr_left fun x _ => by simp [Nat.mul_comm, Nat.mul_left_comm]
      · have : 2 * t * (l / 2) = t * (2 * (l / 2)) := by rw [Nat.mul_assoc, Nat.mul_left_comm]
        rw [this, show 2 * (l / 2) = l by omega]
        exact htl
      · have : t * 2 ≤ t * l := Nat.mul_le_mul_left t (by omega)
        omega
    · have hod : l % 2 = 1 := by have := of_decide_eq_false hc; omega
      have hln : l ≤ n := Nat.le_trans (Nat.le_mul_of_pos_left l ht) htl
      refine q_set ev_c ?_
      refine q_while (fun m σ' H' => ∃ pw : Nat, σ' = [some (.int n), some (.ref p), some (.int t), some (.int l), some (.int pw)] ∧ H' = upd H p (.lst ((zl f).map V.int)) ∧ m = l - pw ∧ 0 < pw ∧ pw ≤ l ∧ p3 l pw = top3 l) (l - 1)
        ⟨1, rfl, rfl, rfl, by omega, by omega, rfl⟩ (fun m σ' H' hw => ?_)
      obtain ⟨pw, rfl, rfl, rfl, hpw, hpl, hp3⟩ := hw
      refine ⟨_, et_t (ev_le (ev_mul ev_c (ev_v 4) (cm (by omega))) (ev_v 3)), fun hd => ?_, fun hd => ?_⟩
      · have h3 : 3 * pw ≤ l := by have := of_decide_eq_true hd; omega
        refine s_set (ev_mul ev_c (ev_v 4) (cm (by omega))) ⟨l - 3 * pw, by omega, 3 * pw, by simp, rfl, rfl, by omega, h3, ?_⟩
        rw [← hp3, p3.eq_1 l pw, dif_pos ⟨hpw, h3⟩]
      · have h3 : ¬ 3 * pw ≤ l := by have := of_decide_eq_false hd; omega
        have e : pw = top3 l := by rw [← hp3, p3.eq_1 l pw, dif_neg (fun z => h3 z.2)]
        have hm : t * pw ≤ n := Nat.le_trans (Nat.mul_le_mul_left t hpl) htl
        refine q_appI (by simp; omega) (ev_v 1) (ev_mul (ev_v 2) (ev_v 4) (cm (by omega))) (s_aug (ev_v 4) ?_)
        refine ⟨l - pw, by omega, f ++ [t * pw], t, l - pw, some (.int pw), ?_, ?_, rfl, ?_, ?_, ht, ht2⟩
        · simp only [List.set]
          rw [show ((l : Int) - (pw : Int)) = ((l - pw : Nat) : Int) by omega]
        · simp [zl]
        · rw [← hf, sums_odd hod, ← e, List.map_cons, List.append_assoc]; rfl
        · rw [Nat.mul_sub]; omega
  · have hl : l = 0 := by have := of_decide_eq_false hb; omega
    subst hl
    rw [sums_0, List.map_nil, List.append_nil] at hf
    refine s_retL (el_revN (el_sorted (ev_v 1) sq_up)) fun r hr => ?_
    obtain ⟨hr1, hr2⟩ := none_upd hr
    rw [hf, ← List.map_reverse]
    exact ⟨_, fg_newL hr1 (ex_upd hr1 (ex_new hp)) upd_same, q r hr1⟩
/-! ### made of 2 and 3 -/
def sp_law_is_made (K : PySem.W.Frag) : Sp := fun vs H Q _ => ∃ (a : Addr) (ps : List Nat) (n : Nat), vs = [.ref a, .int (n : Int)] ∧ Nod H ∧ SqL K H a ((zl ps).map V.int) ∧ (∀ p ∈ ps, 2 ≤ p ∧ p < 1000) ∧ 0 < n ∧ Q (.bl (decide (stripAll ps n = 1))) H
/-- slots: row number prime -/
def t_law_is_made (K : PySem.W.Frag) : TS := (sFg (tSeq (tFor (iList K (tVar 0)) (gName 2) (tWhile (tAnd (tTest (tOp oGt (tVar 1) (tC (.int 0)))) (tTest (tOp rEq (tOp oMod (tVar 1) (tVar 2)) (tC (.int 0))))) (tAsg (tOp oDiv (tVar 1) (tVar 2)) (gName 1))))
  (tRet (tOp rEq (tVar 1) (tC (.int 1))))))
theorem r_law_is_made {K : PySem.W.Frag} {vs : List V} {H : Hp} {Q : VK} {E : XK} (h : sp_law_is_made K vs H Q E) : t_law_is_made K { nx := fun _ H' => Q .non H', rt := Q } (start ["row", "number", "prime"] vs) H := by
  obtain ⟨a, ps, n, rfl, nd, ha, hps, hn, q⟩ := h
  refine fg_body (q_forI (ev_v 0) ha (fun i σ' H' => ∃ (k : Nat) (y : Option V), σ' = [some (.ref a), some (.int k), y] ∧ H' = H ∧ 0 < k ∧ stripAll (ps.drop i) k = stripAll ps n) ⟨n, none, rfl, rfl, hn, rfl⟩ (fun i σ' H' _ hv => ?_) (fun i x σ' H' hx hv => ?_) (fun σ' H' hv => ?_))
  · obtain ⟨k, y, _, rfl, _⟩ := hv
    exact ha
  · obtain ⟨k, y, rfl, rfl, hk, he⟩ := hv
    simp only [zl, List.getElem?_map] at hx
    cases e : ps[i]? with
    | none => rw [e] at hx; cases hx
    | some p =>
      rw [e] at hx
      cases hx
      have hlt := (List.getElem?_eq_some_iff.mp e).1
      have hp := hps p (List.mem_of_getElem? e)
      have hdr : ps.drop i = p :: ps.drop (i + 1) := by
        rw [List.drop_eq_getElem_cons hlt]
        congr 1
        exact (List.getElem?_eq_some_iff.mp e).2
      rw [hdr] at he
      refine s_while (fun m σ' H'' => ∃ j : Nat, σ' = [some (.ref a), some (.int j), some (.int p)] ∧ H'' = H' ∧ j = m ∧ 0 < j ∧ strip p j = strip p k) k ⟨k, rfl, rfl, rfl, hk, rfl⟩ (fun m σ' H'' hw => ?_)
      obtain ⟨j, rfl, rfl, rfl, hj, hs⟩ := hw
      refine ⟨_, et_and (et_t (ev_gt (ev_v 1) ev_c)) fun _ => et_t (ev_eqi (ev_mod (ev_v 1) (ev_v 2) (by omega)) ev_c), fun hb => ?_, fun hb => ?_⟩
      · rw [Bool.and_eq_true, decide_eq_true_eq, decide_eq_true_eq] at hb
        have hm : j % p = 0 := by have := hb.2; omega
        have hdl : j / p < j := Nat.div_lt_self hj (by omega)
        refine s_set (ev_div (ev_v 1) (ev_v 2) (cd (by omega))) ⟨j / p, hdl, j / p, by simp, rfl, rfl, ?_, ?_⟩
        · have := Nat.div_add_mod j p
          rcases Nat.eq_zero_or_pos (j / p) with z | z
          · rw [z, hm] at this; omega
          · exact z
        · rw [← hs, strip_yes (by omega) hj hm]
      · have hm : j % p ≠ 0 := fun z => by
          rw [Bool.and_eq_false_iff, decide_eq_false_iff_not, decide_eq_false_iff_not] at hb
          rcases hb with hb | hb
          · omega
          · exact hb (by omega)
        rw [strip_no hm] at hs
        refine ⟨j, some (.int p), rfl, rfl, hj, ?_⟩
        rw [hs]
        exact he
  · obtain ⟨k, y, rfl, rfl, hk, he⟩ := hv
    simp only [zl, List.length_map, List.drop_length] at he
    refine s_ret (ev_eqi (ev_v 1) ev_c) ⟨_, fg_same ex_refl, ?_⟩
    have : decide ((k : Int) = 1) = decide (stripAll ps n = 1) := by
      rw [← he]
      exact decide_eq_decide.mpr ⟨fun z => by have : k = 1 := by omega
                                              exact this, fun z => by have : k = 1 := z
                                                                      omega⟩
    rw [this]
    exact q
end Px
set_option Elab.async false
set_option linter.all false
set_option maxRecDepth 100000
set_option maxHeartbeats 4000000
namespace Px
open PySem L2 MS
theorem w_take {K : PySem.W.Frag} {σ : L2.St} {H : Hp} [Nod H] {a : Addr} {ds : List Int} {m : Int} {t : TA} {Q : VK} (h : EvA t σ (upd H a (.lst (ds.map V.int))) [.ref a, .int m]) (ok : DrOk ds) (hm : 0 < m)
    (k : ∀ (r : Int) (ds' : List Int), 0 ≤ r → r < m → DrOk ds' → Q (.int r) (upd H a (.lst (ds'.map V.int)))) : tCall (sp_law_take K) [] E0 t σ (upd H a (.lst (ds.map V.int))) Q :=
  w_call h ⟨inferInstance, a, ds, m, rfl, upd_same, ok, hm, fun r ds' h0 h1 o => by rw [upd_upd]; exact k r ds' h0 h1 o⟩
def ten (k : Nat) : Str := PySem.Str.ofString "1" ++ Txt.mul (PySem.Str.ofString "0") (k : Int)
theorem ten_all : ∀ k : Fin 40, PySem.intText? (ten k) = some ((10 : Int) ^ (k : Nat)) ∧ (ten k).length ≤ 640 ∧ (PySem.Str.ofString "1").length + (Txt.mul (PySem.Str.ofString "0") ((k : Nat) : Int)).length ≤ 1000 := by decide +kernel
theorem ten_mul (k : Nat) (h : k < 40) : MulOk (PySem.Str.ofString "0") (k : Int) := PyProof.Rows.mulOk_of 1 40 (by decide +kernel) (by omega) (by omega) (by decide) (by decide)
/-- int('1' + '0' * k), k from a call -/
theorem w_ten {σ : L2.St} {H : Hp} {te : TE} {Q : VK} (h : te σ H fun x H1 => ∃ k : Nat, x = .int (k : Int) ∧ k < 40 ∧ Q (.int (10 ^ k)) H1) (mono : ∀ Q1 Q2 : VK, (∀ v H1, Q1 v H1 → Q2 v H1) → te σ H Q1 → te σ H Q2) :
    tCB cIntS (tCons (tOp oCatS (tC (.str (PySem.Str.ofString "1"))) (tOp oRepS (tC (.str (PySem.Str.ofString "0"))) te)) tNil) σ H Q := by
  refine mono _ _ (fun v H1 z => ?_) h
  obtain ⟨k, rfl, hk, q⟩ := z
  obtain ⟨h1, h2, h3⟩ := ten_all ⟨k, hk⟩
  refine ⟨_, (k : Int), rfl, rfl, ten_mul k hk, _, _, rfl, rfl, Nat.le_trans h3 (by decide), ten k, _, rfl, h1, h2, q⟩
theorem mono_take {K : PySem.W.Frag} {σ : L2.St} {H : Hp} {t : TA} {vs : List V} (h : EvA t σ H vs) (inv : ∀ Q : List V → Hp → Prop, t σ H Q → Q vs H) : ∀ Q1 Q2 : VK, (∀ v H1, Q1 v H1 → Q2 v H1) → tCall (sp_law_take K) [] E0 t σ H Q1 → tCall (sp_law_take K) [] E0 t σ H Q2 := fun Q1 Q2 hq z => by
  have z1 : sp_law_take K (vs ++ []) H Q1 E0 := inv _ z
  obtain ⟨nd, a, ds, m, e, ha, ok, hm, k⟩ := z1
  exact h _ ⟨nd, a, ds, m, e, ha, ok, hm, fun r ds' h0 h1 o => hq _ _ (k r ds' h0 h1 o)⟩
def sp_law_number (K : PySem.W.Frag) : Sp := fun vs H Q _ => Nod H ∧ ∃ (a : Addr) (ds : List Int) (m : Int), vs = [.ref a, .int m] ∧ H a = some (.lst (ds.map V.int)) ∧ DrOk ds ∧ 0 < m ∧ m ≤ 10 ^ 30 ∧
  ∀ (r : Int) (ds' : List Int), 0 ≤ r → r ≤ m → DrOk ds' → Q (.int r) (upd H a (.lst (ds'.map V.int)))
/-- slots: draws most far k power base figures some -/
def t_law_number (K : PySem.W.Frag) : TS := (sFg (tSeq (tAsg (tC (.int 0)) (gName 2))
  (tSeq (tFor (iRng1 (tCons (tC (.int 11)) tNil)) (gName 3) (tAsg (tOp oAdd (tOp oMul (tVar 2) (tC (.int 1000))) (tCall (sp_law_take K) [] E0 (tCons (tVar 0) (tCons (tC (.int 1000)) tNil)))) (gName 2)))
  (tSeq (tAsg (tC (.int 1)) (gName 4))
  (tSeq (tAsg (tFg (tOp (rIxL K) (tLst (tCons (tC (.int 2)) (tCons (tC (.int 3)) (tCons (tC (.int 5)) (tCons (tC (.int 7)) (tCons (tC (.int 10)) (tCons (tC (.int 6)) tNil))))))) (tCall (sp_law_take K) [] E0 (tCons (tVar 0) (tCons (tC (.int 6)) tNil))))) (gName 5))
  (tSeq (tFor (iRng1 (tCons (tCall (sp_law_take K) [] E0 (tCons (tVar 0) (tCons (tC (.int 62)) tNil))) tNil)) (gName 3) (tAsg (tIf (tTest (tOp oLt (tVar 4) (tVar 1))) (tOp oMul (tVar 4) (tVar 5)) (tVar 4)) (gName 4)))
  (tSeq (tAsg (tCB cIntS (tCons (tOp oCatS (tC (.str (PySem.Str.ofString "1"))) (tOp oRepS (tC (.str (PySem.Str.ofString "0"))) (tCall (sp_law_take K) [] E0 (tCons (tVar 0) (tCons (tC (.int 31)) tNil))))) tNil)) (gName 6))
  (tSeq (tAsg (tLst (tCons (tCall (sp_law_take K) [] E0 (tCons (tVar 0) (tCons (tC (.int 40)) tNil))) (tCons (tCall (sp_law_take K) [] E0 (tCons (tVar 0) (tCons (tC (.int 1000)) tNil))) (tCons (tOp oSub (tOp oAdd (tVar 4) (tCall (sp_law_take K) [] E0 (tCons (tVar 0) (tCons (tC (.int 3)) tNil)))) (tC (.int 1))) (tCons (tOp oMod (tVar 2) (tVar 6)) tNil))))) (gName 7))
  (tSeq (tAsg (tFg (tOp rCat (tVar 7) (tLst (tCons (tOp oMod (tVar 2) (tOp oAdd (tVar 1) (tC (.int 1)))) (tCons (tOp oMod (tVar 2) (tOp oAdd (tVar 1) (tC (.int 1)))) (tCons (tVar 1) tNil)))))) (gName 7))
  (tRet (tCB cMax (tCons (tC (.int 0)) (tCons (tCB cMin (tCons (tVar 1) (tCons (tOp (rIxL K) (tVar 7) (tCall (sp_law_take K) [] E0 (tCons (tVar 0) (tCons (tC (.int 7)) tNil)))) tNil))) tNil)))))))))))))
theorem r_law_number {K : PySem.W.Frag} {vs : List V} {H : Hp} {Q : VK} {E : XK} (h : sp_law_number K vs H Q E) : t_law_number K { nx := fun _ H' => Q .non H', rt := Q } (start ["draws", "most", "far", "k", "power", "base", "figures", "some"] vs) H := by
  obtain ⟨nd, a, ds0, m, rfl, ha, ok0, hm, hm2, q⟩ := h
  refine fg_body (q_set ev_c ?_)
  refine q_forR1 (ea_1 ev_c) (by omega) (fun i σ' H' => ∃ (ds : List Int) (f : Int) (y3 : Option V), σ' = [some (.ref a), some (.int m), some (.int f), y3, none, none, none, none] ∧ H' = upd H a (.lst (ds.map V.int)) ∧ DrOk ds ∧ 0 ≤ f ∧ f < 1000 ^ i)
    ⟨ds0, 0, none, rfl, (upd_self ha).symm, ok0, by omega, by simp⟩ (fun i σ' H' hi hv => ?_) (fun σ' H' hv => ?_)
  · obtain ⟨ds, f, y3, rfl, rfl, ok, f0, f1⟩ := hv
    have fb : f < 1000 ^ 10 := Int.lt_of_lt_of_le f1 (by
      have : (1000 : Nat) ^ i ≤ 1000 ^ 10 := Nat.pow_le_pow_right (by omega) (by omega)
      exact_mod_cast this)
    refine s_setW (w_op (w_ev (ev_mul (ev_v 2) ev_c (cm (by omega))) (w_take (ea_2 (ev_v 0) ev_c) ok (by omega) fun r ds' h0 h1 ok' => ⟨_, _, rfl, rfl, ?_⟩)))
    refine ⟨ds', f * 1000 + r, some (.int i), rfl, rfl, ok', by omega, ?_⟩
    rw [Int.pow_succ]
    omega
  · obtain ⟨ds, f, y3, rfl, rfl, ok, f0, f1⟩ := hv
    have f2 : f < 1000 ^ 11 := f1
    refine q_set ev_c (q_setW (w_fg (w_op (w_lst (ea_cons ev_c (ea_cons ev_c (ea_cons ev_c (ea_3 ev_c ev_c ev_c))) _ ⟨(by show 6 ≤ sizeLine; decide), fun p hp => ?_⟩)))))
    obtain ⟨hp1, hp2⟩ := none_upd hp
    -- the draw while the list stands
    refine w_call (ea_2 (ev_v 0) ev_c) ⟨inferInstance, a, ds, 6, rfl, by rw [upd_ne (Ne.symm hp2), upd_same], ok, by omega, fun r ds1 h0 h1 ok1 => ?_⟩
    have hget : ∃ b : Int, atI [V.int 2, .int 3, .int 5, .int 7, .int 10, .int 6] r = some (.int b) ∧ 2 ≤ b ∧ b ≤ 10 := by
      rcases (by omega : r = 0 ∨ r = 1 ∨ r = 2 ∨ r = 3 ∨ r = 4 ∨ r = 5) with rfl | rfl | rfl | rfl | rfl | rfl
      · exact ⟨2, rfl, by omega, by omega⟩
      · exact ⟨3, rfl, by omega, by omega⟩
      · exact ⟨5, rfl, by omega, by omega⟩
      · exact ⟨7, rfl, by omega, by omega⟩
      · exact ⟨10, rfl, by omega, by omega⟩
      · exact ⟨6, rfl, by omega, by omega⟩
    obtain ⟨b, hat, b0, b1⟩ := hget
    refine ⟨p, _, r, .int b, rfl, rfl, sq_at (by rw [upd_ne hp2, upd_same]), hat, upd H a (.lst (ds1.map V.int)), ?_, ?_⟩
    · have := fg_mutL (H := upd H a (.lst (ds.map V.int))) (H' := upd (upd (upd H a (.lst (ds.map V.int))) p (.lst [V.int 2, .int 3, .int 5, .int 7, .int 10, .int 6])) a (.lst (ds1.map V.int))) (p := a) (ys := ds1.map V.int) upd_same (fun c u hc hu => by rw [upd_ne hc, upd_ne (ne_of_none hu hp)]; exact hu) upd_same
      rw [upd_upd] at this
      exact this
    -- the powers
    · refine q_seq (w_forR1 (w_one (w_take (ea_2 (ev_v 0) ev_c) ok1 (by omega) fun r2 ds2 g0 g1 ok2 => ⟨r2, rfl, by omega, by omega, ?_⟩)))
      refine lp_range (fun i σ' H' => ∃ (pw : Int) (y3 : Option V), σ' = [some (.ref a), some (.int m), some (.int f), y3, some (.int pw), some (.int b), none, none] ∧ H' = upd H a (.lst (ds2.map V.int)) ∧ 0 < pw ∧ pw ≤ 10 ^ 31) ⟨1, y3, rfl, rfl, by omega, by omega⟩ (fun i σ' H' hi hv => ?_) (fun σ' H' hv => ?_)
      · obtain ⟨pw, y3, rfl, rfl, p0, p1⟩ := hv
        by_cases hpm : pw < m
        · refine s_set (ev_if (et_eq (et_t (ev_lt (ev_v 4) (ev_v 1))) (decide_eq_true hpm)) (fun _ => ev_mul (ev_v 4) (ev_v 5) (cm (by omega))) fun z => nomatch z) ⟨pw * b, some (.int (i : Int)), rfl, rfl, Int.mul_pos p0 (by omega), ?_⟩
          have : pw * b ≤ 10 ^ 30 * 10 := Int.mul_le_mul (by omega) b1 (by omega) (by omega)
          omega
        · exact s_set (ev_if (et_eq (et_t (ev_lt (ev_v 4) (ev_v 1))) (decide_eq_false hpm)) (fun z => nomatch z) fun _ => ev_v 4) ⟨pw, some (.int (i : Int)), rfl, rfl, p0, p1⟩
      · obtain ⟨pw, y3, rfl, rfl, p0, p1⟩ := hv
        -- figures
        refine q_setW (w_ten (w_take (ea_2 (ev_v 0) ev_c) ok2 (by omega) fun r3 ds3 e0 e1 ok3 => ⟨r3.toNat, by rw [Int.toNat_of_nonneg e0], by omega, ?_⟩) (mono_take (ea_2 (ev_v 0) ev_c) fun Q z => ?_))
        · have hfig : (0 : Int) < 10 ^ r3.toNat := Int.pow_pos (by omega)
          generalize (10 : Int) ^ r3.toNat = fig at hfig
          -- some
          refine q_setW (w_lst (w_cons (w_take (ea_2 (ev_v 0) ev_c) ok3 (by omega) fun v1 ds4 a0 a1 ok4 => w_cons (w_take (ea_2 (ev_v 0) ev_c) ok4 (by omega) fun v2 ds5 a2 a3 ok5 => ?_))))
          refine w_cons (w_op (w_op (w_v 4 (w_take (ea_2 (ev_v 0) ev_c) ok5 (by omega) fun v3 ds6 a4 a5 ok6 => ⟨_, _, rfl, rfl, _, _, rfl, rfl, ?_⟩))))
          refine w_one (w_ev (ev_mod (ev_v 2) (ev_v 6) hfig) ⟨(by show 4 ≤ sizeLine; decide), fun p2 hp2 => ?_⟩)
          obtain ⟨hq1, hq2⟩ := none_upd hp2
          refine q_setW (w_fg (w_op (w_v 7 (w_lst (ea_3 (ev_mod (ev_v 2) (ev_add (ev_v 1) ev_c) (by omega)) (ev_mod (ev_v 2) (ev_add (ev_v 1) ev_c) (by omega)) (ev_v 1) _ ⟨(by show 3 ≤ sizeLine; decide), fun p3 hp3 => ?_⟩)))))
          obtain ⟨hr1, hr2⟩ := none_upd hp3
          refine ⟨p2, p3, _, _, rfl, rfl, by rw [upd_ne (Ne.symm hr2), upd_same], upd_same, (by show 4 + 3 ≤ sizeLine; decide), fun p4 hp4 => ?_⟩
          obtain ⟨hs1, hs2⟩ := none_upd hp4
          obtain ⟨hs3, hs4⟩ := none_upd hs1
          obtain ⟨hs5, hs6⟩ := none_upd hs3
          refine ⟨_, fg_newL hs1 (ex_upd hs1 (ex_new hp3)) upd_same, ?_⟩
          refine s_retW (w_cb (w_cons (w_ev ev_c (w_one (w_cb (w_cons (w_v 1 (w_one (w_op (w_v 7 ?_))))))))))
          refine w_call (ea_2 (ev_v 0) ev_c) ⟨inferInstance, a, ds6, 7, rfl, by rw [upd_ne (Ne.symm hs6), upd_ne (Ne.symm hq2), upd_same], ok6, by omega, fun r4 ds7 c0 c1 ok7 => ?_⟩
          refine ⟨p4, _, r4, _, rfl, rfl, sq_at (by rw [upd_ne hs6, upd_same]), at_of (j := r4.toNat) (by omega) (List.getElem?_eq_getElem (by show r4.toNat < 7; omega)), ?_⟩
          have hint : ∃ z : Int, ([V.int v1, .int v2, .int (pw + v3 - 1), .int (f % fig)] ++ [V.int (f % (m + 1)), .int (f % (m + 1)), .int m])[r4.toNat]'(by show r4.toNat < 7; omega) = .int z := by
            rcases (by omega : r4.toNat = 0 ∨ r4.toNat = 1 ∨ r4.toNat = 2 ∨ r4.toNat = 3 ∨ r4.toNat = 4 ∨ r4.toNat = 5 ∨ r4.toNat = 6) with z | z | z | z | z | z | z <;> simp only [z] <;> exact ⟨_, rfl⟩
          obtain ⟨z, hz⟩ := hint
          rw [hz]
          refine ⟨m, z, rfl, 0, _, rfl, ?_⟩
          refine ⟨upd H a (.lst (ds7.map V.int)), fg_mutL ha (fun c u hc hu => ?_) upd_same, q _ ds7 ?_ ?_ ok7⟩
          · have hcp4 : c ≠ p4 := fun e => by rw [e, hs5] at hu; cases hu
            have hcp2 : c ≠ p2 := fun e => by rw [e, hq1] at hu; cases hu
            rw [upd_ne hc, upd_ne hcp4, upd_ne hcp2, upd_ne hc]; exact hu
          · split <;> omega
          · split <;> (try split) <;> omega
        · obtain ⟨v, e, z2⟩ := z
          cases e
          exact z2
def sp_law_whole (K : PySem.W.Frag) : Sp := fun vs H Q _ => Nod H ∧ ∃ i : Int, vs = [.int i] ∧ Q (.bl true) H
/-- slots: thing -/
def t_law_whole (K : PySem.W.Frag) : TS := (sFg (tRet (tAndV (tCB (rIsi K) (tCons (tVar 0) (tCons (tC (.ty "int")) tNil))) (tNotV (tCB (rIsi K) (tCons (tVar 0) (tCons (tC (.ty "bool")) tNil)))))))
theorem r_law_whole {K : PySem.W.Frag} {vs : List V} {H : Hp} {Q : VK} {E : XK} (h : sp_law_whole K vs H Q E) : t_law_whole K { nx := fun _ H' => Q .non H', rt := Q } (start ["thing"] vs) H := by
  obtain ⟨nd, i, rfl, q⟩ := h
  exact fg_body (s_ret (ev_and (ev_isi (ev_v 0) ev_c (.ty "int") (.base (.int i)) (kit_ty (r := true) (by decide +kernel))) fun _ => ev_not (ev_isi (ev_v 0) ev_c (.ty "bool") (.base (.int i)) (kit_ty (r := false) (by decide +kernel)))) ⟨H, fg_same ex_refl, q⟩)
end Px
set_option Elab.async false
set_option linter.all false
set_option maxRecDepth 100000
set_option maxHeartbeats 4000000
namespace Px
open PySem L2 MS
/-! ### the law's own sum -/
def Dep (d n : Nat) : Prop := (n = 0 ∧ 1 ≤ d) ∨ ∃ k, n < 2 ^ (k + 1) ∧ 2 * k + (if n % 2 = 1 then 3 else 2) ≤ d
theorem dep_top {n : Nat} (h : n < 2 ^ 100) : Dep 201 n := .inr ⟨99, h, by split <;> omega⟩
theorem dep_half {d n : Nat} (h : Dep (d + 1) n) (h0 : n ≠ 0) (he : n % 2 = 0) : Dep d (n / 2) := by
  rcases h with h | ⟨k, h1, h2⟩
  · exact absurd h.1 h0
  · rw [if_neg (by omega)] at h2
    cases k with
    | zero => simp at h1; omega
    | succ k =>
      rw [Nat.pow_succ] at h1
      exact .inr ⟨k, by omega, by split <;> omega⟩
theorem dep_less {d n m : Nat} (h : Dep (d + 1) n) (ho : n % 2 = 1) (hm : m < n) (he : m % 2 = 0) : Dep d m := by
  rcases h with h | ⟨k, h1, h2⟩
  · omega
  · rw [if_pos ho] at h2
    exact .inr ⟨k, by omega, by rw [if_neg (by omega)]; omega⟩
def sp_law_sumD (d : Nat) (K : PySem.W.Frag) : Sp := fun vs H Q _ => Nod H ∧ ∃ n : Nat, vs = [.int (n : Int)] ∧ n < 2 ^ 100 ∧ Dep d n ∧ ∀ p : Addr, H p = none → Q (.ref p) (upd H p (.lst ((zl (sums n)).map V.int)))
theorem z_law_sum {K : PySem.W.Frag} {vs : List V} {H : Hp} {Q : VK} {E : XK} (h : sp_law_sumD 0 K vs H Q E) : False := by
  obtain ⟨_, n, _, _, hd, _⟩ := h
  rcases hd with ⟨_, h⟩ | ⟨k, _, h⟩
  · omega
  · split at h <;> omega
def sp_law_sum (K : PySem.W.Frag) : Sp := sp_law_sumD 201 K
/-- slots: number power one -/
def t_law_sum (K : PySem.W.Frag) (d : Nat) : TS := (sFg (tSeq (tIfS (tTest (tOp rEq (tVar 0) (tC (.int 0)))) (tRet (tLst tNil)) tNext)
  (tSeq (tIfS (tTest (tOp rEq (tOp oMod (tVar 0) (tC (.int 2))) (tC (.int 0)))) (tRet (tFg (tLc (iList K (tCall (sp_law_sumD d K) [] E0 (tCons (tOp oDiv (tVar 0) (tC (.int 2))) tNil))) (gName 2) tYes (tOp oMul (tC (.int 2)) (tVar 2)) [2]))) tNext)
  (tSeq (tAsg (tC (.int 1)) (gName 1))
  (tSeq (tWhile (tTest (tOp oLe (tOp oMul (tVar 1) (tC (.int 3))) (tVar 0))) (tAsg (tOp oMul (tVar 1) (tC (.int 3))) (gName 1)))
  (tRet (tFg (tOp rCat (tLst (tCons (tVar 1) tNil)) (tCall (sp_law_sumD d K) [] E0 (tCons (tOp oSub (tVar 0) (tVar 1)) tNil))))))))))
theorem r_law_sum {K : PySem.W.Frag} {d : Nat} {vs : List V} {H : Hp} {Q : VK} {E : XK} (h : sp_law_sumD (d + 1) K vs H Q E) : t_law_sum K d { nx := fun _ H' => Q .non H', rt := Q } (start ["number", "power", "one"] vs) H := by
  obtain ⟨nd, n, rfl, hn, hd, q⟩ := h
  have hsl := sums_len 100 n hn
  refine fg_body (q_when (et_t (ev_eqi (ev_v 0) ev_c)) (fun hb => ?_) (fun hb => ?_))
  · have : n = 0 := by have := of_decide_eq_true hb; omega
    subst this
    rw [sums_0] at q
    exact s_retL el_nil fun p hp => ⟨_, fg_newL hp (ex_new hp) upd_same, q p hp⟩
  · have h0 : n ≠ 0 := by have := of_decide_eq_false hb; omega
    refine q_when (et_t (ev_eqi (ev_mod (ev_v 0) ev_c (by omega)) ev_c)) (fun hc => ?_) (fun hc => ?_)
    · have he : n % 2 = 0 := by have := of_decide_eq_true hc; omega
      have hl2 := sums_len 100 (n / 2) (by omega)
      refine s_retL (el_lcIN (ns := zl (sums (n / 2))) (fun _ => true) (fun i => 2 * i) (el_call (ea_1 (ev_div (ev_v 0) ev_c (cd (by omega)))) fun Q q => ⟨nd, n / 2, by simp, by omega, dep_half hd h0 he, q⟩) (by simp; omega) (fun x => rfl) (fun i hi q D acc _ _ _ => et_yes) (fun i hi _ q D acc _ _ _ => ev_mul ev_c (ev_v 2) (cm ?_))) fun p hp => ?_
      · obtain ⟨x, hx, rfl⟩ := List.mem_map.mp hi
        have := sums_le _ x hx
        omega
      · refine ⟨_, fg_newL hp (ex_new hp) upd_same, ?_⟩
        have := q p hp
        rw [sums_even h0 he] at this
        have e : (((zl (sums (n / 2))).filter fun _ => true).map fun i => 2 * i) = zl ((sums (n / 2)).map (2 * ·)) := by
          rw [List.filter_eq_self.mpr (fun _ _ => rfl)]
          simp [zl]
        rw [e]
        exact this
    · have ho : n % 2 = 1 := by have := of_decide_eq_false hc; omega
      refine q_set ev_c ?_
      refine q_while (fun m σ' H' => ∃ pw : Nat, σ' = [some (.int n), some (.int pw), none] ∧ H' = H ∧ m = n - pw ∧ 0 < pw ∧ pw ≤ n ∧ p3 n pw = top3 n) (n - 1) ⟨1, rfl, rfl, rfl, by omega, by omega, rfl⟩ (fun m σ' H' hw => ?_)
      obtain ⟨pw, rfl, rfl, rfl, hpw, hpl, hp3⟩ := hw
      refine ⟨_, et_t (ev_le (ev_mul (ev_v 1) ev_c (cm (by omega))) (ev_v 0)), fun hd => ?_, fun hd2 => ?_⟩
      · have h3 : 3 * pw ≤ n := by have := of_decide_eq_true hd; omega
        refine s_set (ev_mul (ev_v 1) ev_c (cm (by omega))) ⟨n - 3 * pw, by omega, 3 * pw, ?_, rfl, rfl, by omega, h3, ?_⟩
        · rw [show ((pw : Int) * 3) = ((3 * pw : Nat) : Int) by omega]; rfl
        · rw [← hp3, p3.eq_1 n pw, dif_pos ⟨hpw, h3⟩]
      · have h3 : ¬ 3 * pw ≤ n := by have := of_decide_eq_false hd2; omega
        have e : pw = top3 n := by rw [← hp3, p3.eq_1 n pw, dif_neg (fun z => h3 z.2)]
        have hod := top3_odd (n := n) (by omega)
        have hl2 := sums_len 100 (n - pw) (by omega)
        refine s_retL (xs := (zl (sums n)).map V.int) (el_fg fun Q q => w_op ((el_lst (ea_1 (ev_v 1)) (by simp)) _ fun p hp => w_call (ea_1 (ev_sub (ev_v 0) (ev_v 1))) ⟨inferInstance, n - pw, ?_, by omega, dep_less hd ho (by omega) (by omega), fun p2 hp2 => ?_⟩)) fun p hp => ⟨_, fg_newL hp (ex_new hp) upd_same, q p hp⟩
        · rw [show ((n : Int) - (pw : Int)) = ((n - pw : Nat) : Int) by omega]
        · obtain ⟨h1, h2⟩ := none_upd hp2
          refine ⟨p, p2, _, _, rfl, rfl, by rw [upd_ne (Ne.symm h2), upd_same], upd_same, Nat.le_trans (show _ ≤ 1000 by simp; omega) (by decide), fun p3 hp3 => ?_⟩
          obtain ⟨h3, h4⟩ := none_upd hp3
          obtain ⟨h5, h6⟩ := none_upd h3
          refine q p3 _ h5 (ex_upd h5 (ex_upd h1 (ex_new hp))) ?_
          rw [upd_same, sums_odd ho, ← e]
          rfl
/-! ### judged by the document's words -/
def sp_law_good (K : PySem.W.Frag) : Sp := fun vs H Q _ => Nod H ∧ ∃ (a : Addr) (xs : List Nat) (n : Nat), vs = [.int (n : Int), .ref a] ∧ H a = some (.lst ((zl xs).map V.int)) ∧ xs.length ≤ 1000 ∧ (∀ x ∈ xs, ∃ i j, x = 2 ^ i * 3 ^ j) ∧
  xs.Pairwise (fun x y => y < x ∧ ¬ y ∣ x) ∧ xs.sum = n ∧ Q (.bl true) H
/-- slots: number thing total k one other -/
def t_law_good (K : PySem.W.Frag) : TS := (sFg (tSeq (tIfS (tNot (tB (tCB (rIsi K) (tCons (tVar 1) (tCons (tC (.ty "list")) tNil))))) (tRet (tC (.bl false))) tNext)
  (tSeq (tAsg (tC (.int 0)) (gName 2))
  (tSeq (tFor (iEnum K (tCons (tVar 1) tNil)) (gTup K 2 (gCons (gName 3) (gCons (gName 4) gNil))) (tSeq (tIfS (tOr (tNot (tB (tCB (rIsi K) (tCons (tVar 4) (tCons (tC (.ty "int")) tNil))))) (tOr (tB (tCB (rIsi K) (tCons (tVar 4) (tCons (tC (.ty "bool")) tNil)))) (tOr (tTest (tOp oLt (tVar 4) (tC (.int 1)))) (tNot (tB (tFg (tCall (sp_law_is_made K) [] E0 (tCons (tLst (tCons (tC (.int 2)) (tCons (tC (.int 3)) tNil))) (tCons (tVar 4) tNil))))))))) (tRet (tC (.bl false))) tNext)
  (tSeq (tIfS (bFg (tTest (tOp (rNeD K) (tFg (tLc (iList K (tSl (rSlL K) (tVar 1) tNoPart (tPart (tVar 3)))) (gName 5) (tOr (tTest (tOp oLe (tVar 5) (tVar 4))) (tTest (tOp rEq (tOp oMod (tVar 5) (tVar 4)) (tC (.int 0))))) (tVar 5) [5])) (tLst tNil)))) (tRet (tC (.bl false))) tNext)
  (tAsg (tOp oAdd (tVar 2) (tVar 4)) (gName 2)))))
  (tRet (tOp rEq (tVar 2) (tVar 0)))))))
theorem sum_upto {l : List Nat} {i x : Nat} (h : l[i]? = some x) : (l.take (i + 1)).sum = (l.take i).sum + x := by
  rw [List.take_add_one, h]
  simp
theorem r_law_good {K : PySem.W.Frag} {vs : List V} {H : Hp} {Q : VK} {E : XK} (h : sp_law_good K vs H Q E) : t_law_good K { nx := fun _ H' => Q .non H', rt := Q } (start ["number", "thing", "total", "k", "one", "other"] vs) H := by
  obtain ⟨nd, a, xs, n, rfl, ha, hl, hm, hp, hs, q⟩ := h
  refine fg_body (q_when (et_not (et_b (ev_isi (ev_v 1) ev_c (.ty "list") (.base (.lst ha)) (kit_ty (r := true) (by decide +kernel))))) (fun z => nomatch z) fun _ => q_set ev_c (q_seq ?_))
  refine w_forE ((ea_1 (ev_v 1)) _ ⟨a, _, rfl, sq_at ha, lp_enum (xs := (zl xs).map V.int) (fun i σ' H' => ∃ y3 y4, σ' = [some (.int n), some (.ref a), some (.int ((xs.take i).sum : Nat)), y3, y4, none] ∧ Ex H H' ∧ Nod H') ⟨none, none, rfl, ex_refl, nd⟩ (fun i σ' H' _ hv => ?_) (fun i v σ' H' T hi hv hT => ?_) (fun σ' H' hv => ?_)⟩)
  · obtain ⟨y3, y4, _, e, _⟩ := hv
    exact sq_at (e _ _ ha)
  · obtain ⟨y3, y4, rfl, e, nd'⟩ := hv
    rw [List.getElem?_map, List.getElem?_map] at hi
    cases hx : xs[i]? with
    | none => rw [hx] at hi; cases hi
    | some x =>
      rw [hx] at hi
      cases hi
      have hmem := List.mem_of_getElem? hx
      have hlt := (List.getElem?_eq_some_iff.mp hx).1
      obtain ⟨i2, j3, hx23⟩ := hm x hmem
      have hpos : 0 < x := by rw [hx23]; exact Nat.mul_pos (Nat.pow_pos (by omega)) (Nat.pow_pos (by omega))
      have eT : Ex H (upd H' T (.tup [.int (i : Int), .int (x : Int)])) := ex_trans e (ex_new hT)
      have haT : SqL K (upd H' T (.tup [.int (i : Int), .int (x : Int)])) a ((zl xs).map V.int) := sq_at (eT _ _ ha)
      have earlier : ∀ o ∈ xs.take i, x < o ∧ ¬ x ∣ o := fun o ho => by
        have hsp : xs = xs.take i ++ x :: xs.drop (i + 1) := by
          conv => lhs; rw [← List.take_append_drop i xs, List.drop_eq_getElem_cons hlt]
          rw [(List.getElem?_eq_some_iff.mp hx).2]
        rw [hsp] at hp
        exact (List.pairwise_append.mp hp).2.2 o ho x List.mem_cons_self
      refine q_when (b := false) (et_eq (et_or (et_not (et_b (ev_isi (ev_v 4) ev_c (.ty "int") (.base (.int _)) (kit_ty (r := true) (by decide +kernel))))) fun _ => et_or (et_b (ev_isi (ev_v 4) ev_c (.ty "bool") (.base (.int _)) (kit_ty (r := false) (by decide +kernel)))) fun _ => et_or (et_t (ev_lt (ev_v 4) ev_c)) fun _ => et_not (et_b (ev_callL (v := .bl true) (el_lst (ea_2 ev_c ev_c) (by simp)) (fun p hp => ea_1 (ev_v 4)) fun p hp Q q => ⟨p, [2, 3], x, rfl, inferInstance, sq_at upd_same, by simp, hpos, ?_⟩))) ?_) (fun z => nomatch z) fun _ => ?_
      · rw [show stripAll [2, 3] x = 1 by rw [hx23]; exact made23 i2 j3]
        exact q
      · rw [decide_eq_false (show ¬ ((x : Int) < 1) by omega)]
        rfl
      · refine q_when (b := false) (et_eq (et_nonilN (ns := ((((zl xs).take i).filter fun o => decide (o ≤ (x : Int)) || decide (o % (x : Int) = 0)).map fun o => o)) (el_lcIN (fun o => decide (o ≤ (x : Int)) || decide (o % (x : Int) = 0)) (fun o => o) ?_ (by simp; omega) (fun _ => rfl) (fun o ho q D acc _ _ _ => et_or (et_t (ev_le (ev_v 5) (ev_v 4))) fun _ => et_t (ev_eqi (ev_mod (ev_v 5) (ev_v 4) (by omega)) ev_c)) fun o ho _ q D acc _ _ _ => ev_v 5)) ?_) (fun z => nomatch z) fun _ => ?_
        · rw [← cut_to]
          exact el_sl (ev_v 1) eo_no (eo_is (ev_v 3)) haT
        · rw [Bool.not_eq_false', decide_eq_true_eq, List.map_eq_nil_iff, List.filter_eq_nil_iff]
          intro o ho
          rw [← List.map_take] at ho
          obtain ⟨y, hy, rfl⟩ := List.mem_map.mp ho
          obtain ⟨h1, h2⟩ := earlier y hy
          rw [Bool.or_eq_true, decide_eq_true_eq, decide_eq_true_eq]
          rintro (z | z)
          · omega
          · exact h2 (Nat.dvd_of_mod_eq_zero (by omega))
        · refine s_set (ev_add (ev_v 2) (ev_v 4)) ⟨some (.int (i : Int)), some (.int (x : Int)), ?_, eT, inferInstance⟩
          rw [sum_upto hx]
          simp
  · obtain ⟨y3, y4, rfl, e, nd'⟩ := hv
    simp only [zl, List.length_map, List.take_length]
    refine s_ret (ev_eqi (ev_v 2) (ev_v 0)) ⟨H, fg_same e, ?_⟩
    rw [hs, decide_eq_true rfl]
    exact q
/-! ### one number -/
theorem dsum_eq (n : Nat) : ∃ xs : List Nat, zl xs = dsum n ∧ xs.length = (sums n).length ∧ xs.Perm (sums n) ∧ xs.Pairwise (fun x y => y ≤ x) := by
  refine ⟨(dsum n).map Int.toNat, ?_, ?_, ?_, ?_⟩
  · have : ∀ l : List Int, (∀ x ∈ l, 0 ≤ x) → zl (l.map Int.toNat) = l := fun l h => by
      induction l with
      | nil => rfl
      | cons a l ih =>
        simp only [zl, List.map_cons] at ih ⊢
        rw [ih fun x hx => h x (List.mem_cons_of_mem _ hx), Int.toNat_of_nonneg (h a List.mem_cons_self)]
    refine this _ fun x hx => ?_
    have hx1 : x ∈ zl (sums n) := (srt_perm _).mem_iff.mp (List.mem_reverse.mp hx)
    obtain ⟨y, _, rfl⟩ := List.mem_map.mp hx1
    omega
  · simp [dsum, srt_len]
  · have h1 : ((dsum n).map Int.toNat).Perm ((zl (sums n)).map Int.toNat) := List.Perm.map _ ((List.reverse_perm _).trans (srt_perm _))
    have h2 : (zl (sums n)).map Int.toNat = sums n := by simp [zl, Function.comp_def]
    rw [h2] at h1
    exact h1
  · rw [List.pairwise_map, dsum, List.pairwise_reverse]
    exact (srt_pair _).imp fun h => Int.toNat_le_toNat h
theorem apart_perm {xs : List Nat} (n : Nat) (h : xs.Perm (sums n)) (hs : xs.Pairwise (fun x y => y ≤ x)) : xs.Pairwise (fun x y => y < x ∧ ¬ y ∣ x) := by
  have h1 : xs.Pairwise (fun x y => ¬ x ∣ y ∧ ¬ y ∣ x) := (h.pairwise_iff (fun {x y} z => ⟨z.2, z.1⟩)).mpr (sums_apart n)
  refine (hs.and h1).imp fun {x y} z => ⟨?_, z.2.2⟩
  rcases Nat.lt_or_eq_of_le z.1 with h | h
  · exact h
  · subst h
    exact absurd (Nat.dvd_refl _) z.2.1
def sp_law_right (K : PySem.W.Frag) : Sp := fun vs H Q _ => Nod H ∧ ∃ n : Nat, vs = [.int (n : Int)] ∧ n < 2 ^ 100 ∧ Q (.bl true) H
/-- slots: number due again found one -/
def t_law_right (K : PySem.W.Frag) : TS := (sFg (tSeq (tAsg (tFg (tRevL K (tFg (tCB (rSortedI K) (tCons (tCall (sp_law_sum K) [] E0 (tCons (tVar 0) tNil)) tNil))))) (gName 1))
  (tSeq (tIfS (tNot (tB (tCall (sp_law_good K) [] E0 (tCons (tVar 0) (tCons (tVar 1) tNil))))) (tRet (tC (.bl false))) tNext)
  (tSeq (tFor (iRng1 (tCons (tC (.int 2)) tNil)) (gName 2) (tSeq (tAsg (tCall (sp_as_sum K) [] E0 (tCons (tVar 0) tNil)) (gName 3))
  (tSeq (tIfS (tOr (tNot (tB (tCB (rIsi K) (tCons (tVar 3) (tCons (tC (.ty "list")) tNil))))) (tOr (tTest (tOp (rNeD K) (tVar 3) (tVar 1))) (bFg (tTest (tOp (rNeD K) (tLc (iList K (tVar 3)) (gName 4) (tNot (tB (tCall (sp_law_whole K) [] E0 (tCons (tVar 4) tNil)))) (tC (.int 1)) [4]) (tLst tNil)))))) (tRet (tC (.bl false))) tNext)
  (tSeq (tDrop (tBM K "list" rAppend (tVar 3) (tCons (tC .non) tNil)))
  (tAsg (tC .non) (gSub (tVar 3) (tC (.int 0)) rSetL))))))
  (tRet (tC (.bl true)))))))
theorem r_law_right {K : PySem.W.Frag} {vs : List V} {H : Hp} {Q : VK} {E : XK} (h : sp_law_right K vs H Q E) : t_law_right K { nx := fun _ H' => Q .non H', rt := Q } (start ["number", "due", "again", "found", "one"] vs) H := by
  obtain ⟨nd, n, rfl, hn, q⟩ := h
  obtain ⟨xs, hxs, hlen, hperm, hdown⟩ := dsum_eq n
  have hsl := sums_len 100 n hn
  have hdl : (dsum n).length ≤ 100 := by rw [← hxs]; simp; omega
  have hsum : xs.sum = n := by rw [hperm.sum_nat, sums_sum]
  refine fg_body (q_setL (xs := (dsum n).map V.int) (by
    rw [dsum, List.map_reverse]
    exact el_revN (el_sortedN (el_call (ea_1 (ev_v 0)) fun Q q => ⟨nd, n, rfl, hn, dep_top hn, q⟩))) fun p hp => ?_)
  refine q_when (et_not (et_b (ev_call (v := .bl true) (ea_2 (ev_v 0) (ev_v 1)) fun Q q => ⟨inferInstance, p, xs, n, rfl, by rw [hxs]; exact upd_same, by omega, fun x hx => sums_made n x (hperm.mem_iff.mp hx), apart_perm n hperm hdown, hsum, q⟩))) (fun z => nomatch z) fun _ => ?_
  refine q_forR1 (ea_1 ev_c) (by omega) (fun i σ' H' => ∃ y2 y3, σ' = [some (.int n), some (.ref p), y2, y3, none] ∧ H' p = some (.lst ((dsum n).map V.int)) ∧ Ex H H' ∧ Nod H') ⟨none, none, rfl, upd_same, ex_new hp, inferInstance⟩ (fun i σ' H' hi hv => ?_) (fun σ' H' hv => ?_)
  · obtain ⟨y2, y3, rfl, hH, e, nd'⟩ := hv
    refine q_setL (el_call (ea_1 (ev_v 0)) fun Q q => ⟨nd', n, rfl, hn, q⟩) fun f hf => ?_
    have hpf : p ≠ f := ne_of_none hH hf
    have hf0 : H f = none := ex_none e hf
    refine q_when (b := false) (et_eq (et_or (et_not (et_b (ev_isi (ev_v 3) ev_c (.ty "list") (.base (.lst upd_same)) (kit_ty (r := true) (by decide +kernel))))) fun _ => et_or (et_t (ev_op (ev_v 3) (ev_v 1) (rv_neI (ns := dsum n) (ms := dsum n) (sq_at upd_same) (sq_at (by rw [upd_ne hpf]; exact hH))))) fun _ => et_nonilN (ns := (((dsum n).filter fun _ => false).map fun _ => 1)) (el_lcI (fun _ => false) (fun _ => 1) (ev_v 3) sq_up (by omega) (fun _ => rfl) (fun i hi D acc hD => et_eq (et_not (et_b (ev_call (v := .bl true) (ea_1 (ev_v 4)) fun Q q => ⟨inferInstance, i, rfl, q⟩))) rfl) fun i hi z => nomatch z)) ?_) (fun z => nomatch z) fun _ => ?_
    · rw [decide_eq_true rfl]
      simp
    · refine q_seq (s_app upd_same (Nat.lt_of_le_of_lt (show _ ≤ 1000 by simp; omega) (by decide)) (ev_v 3) ev_c (s_sub (j := 0) upd_same (ixn0 (by simp)) ev_c (ev_v 3) ev_c ⟨some (.int (i : Int)), some (.ref f), rfl, ?_, ?_, ?_⟩))
      · rw [upd_ne hpf, upd_ne hpf, upd_ne hpf]; exact hH
      · exact ex_upd hf0 (ex_upd hf0 (ex_upd hf0 e))
      · infer_instance
  · obtain ⟨y2, y3, rfl, hH, e, nd'⟩ := hv
    exact s_ret ev_c ⟨H, fg_same e, q⟩
/-! ### the law -/
theorem top_11 : dsum 11 = [9, 2] := by
  have e : sums 11 = [9, 2] := by
    rw [sums_odd (by decide), show top3 11 = 9 by simp [top3, p3], show 11 - 9 = 2 from rfl, sums_even (by decide) (by decide), show 2 / 2 = 1 from rfl, sums_odd (by decide), show top3 1 = 1 by simp [top3, p3], show 1 - 1 = 0 from rfl, sums_0]
    rfl
  rw [dsum, e, ← srt_eq (l := zl [9, 2]) (l' := [2, 9]) (by decide) (by decide)]
  rfl
theorem top_19 : dsum 19 = [9, 6, 4] := by
  have e : sums 19 = [9, 6, 4] := by
    rw [sums_odd (by decide), show top3 19 = 9 by simp [top3, p3], show 19 - 9 = 10 from rfl, sums_even (by decide) (by decide), show 10 / 2 = 5 from rfl, sums_odd (by decide), show top3 5 = 3 by simp [top3, p3], show 5 - 3 = 2 from rfl, sums_even (by decide) (by decide), show 2 / 2 = 1 from rfl, sums_odd (by decide), show top3 1 = 1 by simp [top3, p3], show 1 - 1 = 0 from rfl, sums_0]
    rfl
  rw [dsum, e, ← srt_eq (l := zl [9, 6, 4]) (l' := [4, 6, 9]) (by decide) (by decide)]
  rfl
def sp_law (K : PySem.W.Frag) : Sp := fun vs H Q _ => Nod H ∧ ∃ (a : Addr) (ns : List Int), vs = [.ref a] ∧ SqL K H a (ns.map V.int) ∧ ns.length ≤ 63 ∧ ∀ H', Q (.bl true) H'
/-- slots: script draws many number some -/
def t_law (K : PySem.W.Frag) : TS := (sFg (tSeq (tAsg (tCall (sp_law_draws K) [] E0 (tCons (tVar 0) tNil)) (gName 1))
  (tSeq (tAsg (tC (.int 0)) (gName 2))
  (tSeq (tWhile (tOr (tTest (tOp oLt (tVar 2) (tC (.int 1)))) (tAnd (bFg (tTest (tOp (rNeD K) (tVar 1) (tLst tNil)))) (tTest (tOp oLt (tVar 2) (tC (.int 6)))))) (tSeq (tAsg (tCall (sp_law_number K) [] E0 (tCons (tVar 1) (tCons (tOp oPow (tC (.int 10)) (tC (.int 30))) tNil))) (gName 3))
  (tSeq (tFor (iTup K (tTup (tCons (tVar 3) (tCons (tCB cMin (tCons (tOp oPow (tC (.int 10)) (tC (.int 30))) (tCons (tOp oAdd (tVar 3) (tC (.int 1))) tNil))) (tCons (tOp oDiv (tVar 3) (tC (.int 2))) tNil))))) (gName 4) (tIfS (tNot (tB (tCall (sp_law_right K) [] E0 (tCons (tVar 4) tNil)))) (tRet (tC (.bl false))) tNext))
  (tAsg (tOp oAdd (tVar 2) (tC (.int 1))) (gName 2)))))
  (tSeq (tIfS (tOr (tNot (tB (tCall (sp_law_right K) [] E0 (tCons (tC (.int 0)) tNil)))) (tOr (tNot (tB (tCall (sp_law_right K) [] E0 (tCons (tC (.int 1)) tNil)))) (tNot (tB (tCall (sp_law_right K) [] E0 (tCons (tOp oPow (tC (.int 10)) (tC (.int 30))) tNil)))))) (tRet (tC (.bl false))) tNext)
  (tRet (tAndV (tFg (tOp (rEqD K) (tCall (sp_as_sum K) [] E0 (tCons (tC (.int 11)) tNil)) (tLst (tCons (tC (.int 9)) (tCons (tC (.int 2)) tNil))))) (tFg (tOp (rEqD K) (tCall (sp_as_sum K) [] E0 (tCons (tC (.int 19)) tNil)) (tLst (tCons (tC (.int 9)) (tCons (tC (.int 6)) (tCons (tC (.int 4)) tNil)))))))))))))
theorem r_law {K : PySem.W.Frag} {vs : List V} {H : Hp} {Q : VK} {E : XK} (h : sp_law K vs H Q E) : t_law K { nx := fun _ H' => Q .non H', rt := Q } (start ["script", "draws", "many", "number", "some"] vs) H := by
  obtain ⟨nd, a, ns, rfl, ha, hl, q⟩ := h
  refine fg_body (q_setW (w_call (ea_1 (ev_v 0)) ⟨nd, a, ns, rfl, ha, hl, fun p ds0 hp ok0 => q_set ev_c ?_⟩))
  have right : ∀ {σ : L2.St} {H1 : Hp} {te : TE} {n : Nat}, Nod H1 → Ev te σ H1 (.int (n : Int)) → n < 2 ^ 100 → EvT (tNot (tB (tCall (sp_law_right K) [] E0 (tCons te tNil)))) σ H1 false := fun nd1 ev hn => et_eq (et_not (et_b (ev_call (v := .bl true) (ea_1 ev) fun Q q => ⟨nd1, _, rfl, hn, q⟩))) rfl
  refine q_while (fun m σ' H' => ∃ (ds : List Int) (c : Nat) (y3 y4 : Option V), σ' = [some (.ref a), some (.ref p), some (.int c), y3, y4] ∧ H' p = some (.lst (ds.map V.int)) ∧ DrOk ds ∧ Ex H H' ∧ Nod H' ∧ m = 7 - c ∧ c ≤ 6) 7
    ⟨ds0, 0, none, none, rfl, upd_same, ok0, ex_new hp, inferInstance, rfl, by omega⟩ (fun m σ' H' hw => ?_)
  obtain ⟨ds, c, y3, y4, rfl, hp', ok, e, nd', rfl, hc⟩ := hw
  refine ⟨_, et_or (et_t (ev_lt (ev_v 2) ev_c)) fun _ => et_and (et_nonil (sq_at hp') (ev_v 1)) fun _ => et_t (ev_lt (ev_v 2) ev_c), fun hb => ?_, fun hb => ?_⟩
  · have hc6 : c < 6 := by
      rw [Bool.or_eq_true, Bool.and_eq_true, decide_eq_true_eq, decide_eq_true_eq] at hb
      rcases hb with hb | hb
      · omega
      · omega
    refine q_setW (w_call (ea_2 (ev_v 1) (ev_pow ev_c ev_c (cp (by omega)))) ⟨nd', p, ds, _, rfl, hp', ok, by decide, by decide, fun r ds1 h0 h1 ok1 => ?_⟩)
    have h1 : r ≤ 10 ^ 30 := h1
    obtain ⟨rn, rfl⟩ : ∃ rn : Nat, r = (rn : Int) := ⟨r.toNat, by omega⟩
    refine q_seq (w_forT ((eu_tup (ea_3 (ev_v 3) (ev_min (ev_pow ev_c ev_c (cp (by omega))) (ev_add (ev_v 3) ev_c)) (ev_div (ev_v 3) ev_c (cd (by omega)))) (by simp)) _ fun T hT => ⟨T, rfl, ⟨_, st_at upd_same⟩, ?_⟩))
    obtain ⟨hT1, hT2⟩ := none_upd hT
    have e2 : Ex H (upd (upd H' p (.lst (ds1.map V.int))) T (.tup [.int (rn : Int), .int (if (rn : Int) + 1 < 10 ^ (30 : Int).toNat then (rn : Int) + 1 else 10 ^ (30 : Int).toNat), .int ((rn : Int) / 2)])) := ex_upd (ex_none e hT1) (ex_upd hp e)
    refine lp_tup (xs := [.int (rn : Int), .int (if (rn : Int) + 1 < 10 ^ (30 : Int).toNat then (rn : Int) + 1 else 10 ^ (30 : Int).toNat), .int ((rn : Int) / 2)]) (fun i σ' H2 => ∃ y4, σ' = [some (.ref a), some (.ref p), some (.int c), some (.int (rn : Int)), y4] ∧ H2 = upd (upd H' p (.lst (ds1.map V.int))) T (.tup [.int (rn : Int), .int (if (rn : Int) + 1 < 10 ^ (30 : Int).toNat then (rn : Int) + 1 else 10 ^ (30 : Int).toNat), .int ((rn : Int) / 2)]))
      ⟨y4, rfl, rfl⟩ (fun i σ' H2 _ hv => ?_) (fun i x σ' H2 hx hv => ?_) (fun σ' H2 hv => ?_)
    · obtain ⟨_, _, rfl⟩ := hv
      exact st_at upd_same
    · obtain ⟨y4, rfl, rfl⟩ := hv
      have hnat : ∃ k : Nat, x = .int (k : Int) ∧ k < 2 ^ 100 := by
        have hx := List.mem_of_getElem? hx
        simp only [List.mem_cons, List.not_mem_nil, or_false] at hx
        rcases hx with rfl | rfl | rfl
        · exact ⟨rn, rfl, by omega⟩
        · exact ⟨(if (rn : Int) + 1 < 10 ^ (30 : Int).toNat then (rn : Int) + 1 else 10 ^ (30 : Int).toNat).toNat, by
            rw [Int.toNat_of_nonneg]
            show 0 ≤ if (rn : Int) + 1 < 10 ^ 30 then (rn : Int) + 1 else 10 ^ 30
            split <;> omega, by
            show (if (rn : Int) + 1 < 10 ^ 30 then (rn : Int) + 1 else 10 ^ 30).toNat < 2 ^ 100
            split <;> omega⟩
        · exact ⟨rn / 2, by simp, by omega⟩
      obtain ⟨k, rfl, hk⟩ := hnat
      exact s_when (right inferInstance (ev_v 4) hk) (fun z => nomatch z) fun _ => ⟨_, rfl, rfl⟩
    · obtain ⟨y4, rfl, rfl⟩ := hv
      exact s_set (ev_add (ev_v 2) ev_c) ⟨7 - (c + 1), by omega, ds1, c + 1, _, _, rfl, by rw [upd_ne (Ne.symm hT2), upd_same], ok1, e2, inferInstance, rfl, by omega⟩
  · refine q_when (b := false) (et_or (right (n := 0) nd' ev_c (by omega)) fun _ => et_or (right (n := 1) nd' ev_c (by omega)) fun _ => right (n := 10 ^ 30) nd' (ev_pow ev_c ev_c (cp (by omega))) (by omega)) (fun z => nomatch z) fun _ => ?_
    have e11 : EvL (tCall (sp_as_sum K) [] E0 (tCons (tC (.int 11)) tNil)) [some (.ref a), some (.ref p), some (.int c), y3, y4] H' (([9, 2] : List Int).map V.int) := by
      rw [← top_11]
      exact el_call (ea_1 ev_c) fun Q q => ⟨nd', 11, rfl, by omega, q⟩
    have e19 : EvL (tCall (sp_as_sum K) [] E0 (tCons (tC (.int 19)) tNil)) [some (.ref a), some (.ref p), some (.int c), y3, y4] H' (([9, 6, 4] : List Int).map V.int) := by
      rw [← top_19]
      exact el_call (ea_1 ev_c) fun Q q => ⟨nd', 19, rfl, by omega, q⟩
    have same : ∀ {ms : List Int} {ta tb : TE} {σ : L2.St}, EvL ta σ H' (ms.map V.int) → (∀ H1, EvL tb σ H1 (ms.map V.int)) → Ev (tFg (tOp (rEqD K) ta tb)) σ H' (.bl true) := fun {ms ta tb σ} h1 h2 => ev_fg fun Q q => h1 _ fun r1 hr1 => h2 _ _ fun r2 hr2 => by
      refine rv_eqI (ns := ms) (ms := ms) (sq_new hr2 sq_up) sq_up _ ?_
      rw [decide_eq_true rfl]
      exact q _ (ex_upd (none_upd hr2).1 (ex_new hr1))
    exact s_ret (ev_and (same e11 fun H1 => el_lst (ea_2 ev_c ev_c) (by simp)) fun _ => same e19 fun H1 => el_lst (ea_3 ev_c ev_c ev_c) (by simp)) ⟨H, fg_same e, q _⟩
end Px
set_option Elab.async false
set_option linter.all false
set_option maxRecDepth 100000
set_option maxHeartbeats 0
namespace K33
open PySem PySem.Spec PyProof.Rows L2 Px
def top (i : Nat) : Stmt := PySem.Challenge.pw_smallparts_k33_sums_told.main.body.getD i (.Pass ⟨0, 0, 0, 0⟩)
abbrev s_as_sum : Stmt := top 1
abbrev N_as_sum : List Str := ["number", "found", "times", "left", "power"]
theorem sc_as_sum : FnScope N_as_sum ["number"] (defScope s_as_sum) := ⟨rfl, rfl, rfl, by decide +kernel, rfl, by decide +kernel, by decide +kernel⟩
abbrev s_law_draws : Stmt := top 3
abbrev N_law_draws : List Str := ["script", "draws", "k", "rest", "stir", "many"]
theorem sc_law_draws : FnScope N_law_draws ["script"] (defScope s_law_draws) := ⟨rfl, rfl, rfl, by decide +kernel, rfl, by decide +kernel, by decide +kernel⟩
abbrev s_law_take : Stmt := top 4
abbrev N_law_take : List Str := ["draws", "many"]
theorem sc_law_take : FnScope N_law_take ["draws", "many"] (defScope s_law_take) := ⟨rfl, rfl, rfl, by decide +kernel, rfl, by decide +kernel, by decide +kernel⟩
abbrev s_law_is_made : Stmt := top 7
abbrev N_law_is_made : List Str := ["row", "number", "prime"]
theorem sc_law_is_made : FnScope N_law_is_made ["row", "number"] (defScope s_law_is_made) := ⟨rfl, rfl, rfl, by decide +kernel, rfl, by decide +kernel, by decide +kernel⟩
abbrev s_law_number : Stmt := top 10
abbrev N_law_number : List Str := ["draws", "most", "far", "k", "power", "base", "figures", "some"]
theorem sc_law_number : FnScope N_law_number ["draws", "most"] (defScope s_law_number) := ⟨rfl, rfl, rfl, by decide +kernel, rfl, by decide +kernel, by decide +kernel⟩
abbrev s_law_whole : Stmt := top 11
abbrev N_law_whole : List Str := ["thing"]
theorem sc_law_whole : FnScope N_law_whole ["thing"] (defScope s_law_whole) := ⟨rfl, rfl, rfl, by decide +kernel, rfl, by decide +kernel, by decide +kernel⟩
abbrev s_law_sum : Stmt := top 12
abbrev N_law_sum : List Str := ["number", "power", "one"]
theorem sc_law_sum : FnScope N_law_sum ["number"] (defScope s_law_sum) := ⟨rfl, rfl, rfl, by decide +kernel, rfl, by decide +kernel, by decide +kernel⟩
abbrev s_law_good : Stmt := top 13
abbrev N_law_good : List Str := ["number", "thing", "total", "k", "one", "other"]
theorem sc_law_good : FnScope N_law_good ["number", "thing"] (defScope s_law_good) := ⟨rfl, rfl, rfl, by decide +kernel, rfl, by decide +kernel, by decide +kernel⟩
abbrev s_law_right : Stmt := top 14
abbrev N_law_right : List Str := ["number", "due", "again", "found", "one"]
theorem sc_law_right : FnScope N_law_right ["number"] (defScope s_law_right) := ⟨rfl, rfl, rfl, by decide +kernel, rfl, by decide +kernel, by decide +kernel⟩
abbrev s_law : Stmt := top 15
abbrev N_law : List Str := ["script", "draws", "many", "number", "some"]
theorem sc_law : FnScope N_law ["script"] (defScope s_law) := ⟨rfl, rfl, rfl, by decide +kernel, rfl, by decide +kernel, by decide +kernel⟩
section
variable {P : Program} {w : World} {K : PySem.W.Frag} {mg : Str → Option Value} {base : Heap} {f : Addr} {fd : FuncData}
theorem ok_as_sum (F : FnP K "as_sum" s_as_sum f fd) (g : mg "as_sum" = some (.ref f)) (m_sorted : mg "sorted" = none) : Fn P w K mg base "as_sum" 1 ["number"] (sp_as_sum K) := by
  refine ⟨f, fd, F.ok (k := 0) sc_as_sum (fun vs H Q E h => by first | (obtain ⟨_, _, rfl, _⟩ := h; rfl) | (obtain ⟨_, _, _, rfl, _⟩ := h; rfl) | (obtain ⟨_, _, _, _, rfl, _⟩ := h; rfl) | (obtain ⟨_, _, _, _, _, rfl, _⟩ := h; rfl) | (obtain ⟨_, _, _, _, _, _, rfl, _⟩ := h; rfl) | (obtain ⟨_, _, _, _, _, _, _, rfl, _⟩ := h; rfl)) (fun cdv A outer s H vs Q E hr h => ⟨t_as_sum K, PSs.nox ?_, r_as_sum h⟩), g, F.kp, F.bindsN fun _ _ _ _ _ _ us hl => match us, hl with | [_], _ => rfl⟩
  exact (pss_fg (pss_cons (ps_set (i := 1) sc_as_sum.nd rfl (Or.inl rfl) (pe_lst pa_nil))
      (pss_cons (ps_set (i := 2) sc_as_sum.nd rfl (Or.inl rfl) pe_int)
      (pss_cons (ps_set (i := 3) sc_as_sum.nd rfl (Or.inl rfl) (pv 0))
      (pss_cons (ps_while PassesOwn.never (pt_cmpR op_gt (pv 3) pe_int (nomark _)) (pss_one (ps_if (pt_cmpR op_eq (pe_op op_mod (pv 3) pe_int) pe_int (nomark _)) (pss_cons (ps_set (i := 3) sc_as_sum.nd rfl (Or.inl rfl) (pe_op op_fdivW (pv 3) pe_int))
      (pss_one (ps_set (i := 2) sc_as_sum.nd rfl (Or.inl rfl) (pe_op op_mulW pe_int (pv 2))))) (pss_cons (ps_set (i := 4) sc_as_sum.nd rfl (Or.inl rfl) pe_int)
      (pss_cons (ps_while PassesOwn.never (pt_cmpR op_le (pe_op op_mulW pe_int (pv 4)) (pv 3) (nomark _)) (pss_one (ps_set (i := 4) sc_as_sum.nd rfl (Or.inl rfl) (pe_op op_mulW pe_int (pv 4)))))
      (pss_cons (ps_expr (pe_bm PySem.F.plainAttrs_list PySem.F.slot_list_append PySem.F.type_list_append mt_append (pv 1) (pa_cons (pe_op op_mulW (pv 2) (pv 4)) pa_nil)))
      (pss_one (ps_aug (i := 3) sc_as_sum.nd rfl (Or.inl rfl) (pv 4) ip_sub))))))))
      (pss_one (ps_ret (pe_fg (pe_revL (pe_callB cr_sortedI (by rfl) m_sorted (by decide +kernel) (pa_cons (pv 1) pa_nil)))))))))))
theorem ok_law_draws (F : FnP K "_law_draws" s_law_draws f fd) (g : mg "_law_draws" = some (.ref f)) (m_abs : mg "abs" = none) (m_len : mg "len" = none) (m_min : mg "min" = none) (m_range : mg "range" = none) : Fn P w K mg base "_law_draws" 1 ["script"] (sp_law_draws K) := by
  refine ⟨f, fd, F.ok (k := 0) sc_law_draws (fun vs H Q E h => by first | (obtain ⟨_, _, rfl, _⟩ := h; rfl) | (obtain ⟨_, _, _, rfl, _⟩ := h; rfl) | (obtain ⟨_, _, _, _, rfl, _⟩ := h; rfl) | (obtain ⟨_, _, _, _, _, rfl, _⟩ := h; rfl) | (obtain ⟨_, _, _, _, _, _, rfl, _⟩ := h; rfl) | (obtain ⟨_, _, _, _, _, _, _, rfl, _⟩ := h; rfl)) (fun cdv A outer s H vs Q E hr h => ⟨t_law_draws K, PSs.nox ?_, r_law_draws h⟩), g, F.kp, F.bindsN fun _ _ _ _ _ _ us hl => match us, hl with | [_], _ => rfl⟩
  exact (pss_fg (pss_cons (ps_set (i := 1) sc_law_draws.nd rfl (Or.inl rfl) (pe_lst pa_nil))
      (pss_cons (ps_for PassesOwn.never rfl (pi_range1 (by rfl) m_range (pa_cons (pe_callB (call_min2 rfl) (by rfl) m_min (by decide +kernel) (pa_cons (pe_callB call_len_seq (by rfl) m_len (by decide +kernel) (pa_cons (pv 0) pa_nil)) (pa_cons pe_int pa_nil))) pa_nil)) (pg_name (i := 2) sc_law_draws.nd rfl (Or.inl rfl)) (pss_cons (ps_set (i := 3) sc_law_draws.nd rfl (Or.inl rfl) (pe_callB call_abs (by rfl) m_abs (by decide +kernel) (pa_cons (pe_ix ix_list (pv 0) (pv 2) (fun _ _ => rfl)) pa_nil)))
      (pss_one (ps_if (pt_cmpR op_lt (pv 3) (pe_op op_pow pe_int pe_int) (nomark _)) (pss_cons (ps_set (i := 4) sc_law_draws.nd rfl (Or.inl rfl) (pe_op op_mod (pe_op op_mulW (pe_op op_mod (pe_op op_add (pe_op op_add (pv 3) (pe_op op_mulW pe_int (pv 2))) pe_int) pe_int) pe_int) pe_int))
      (pss_cons (ps_set (i := 4) sc_law_draws.nd rfl (Or.inl rfl) (pe_op op_mod (pe_op op_mulW (pv 4) (pv 4)) pe_int))
      (pss_cons (ps_expr (pe_bm PySem.F.plainAttrs_list PySem.F.slot_list_append PySem.F.type_list_append mt_append (pv 1) (pa_cons (pe_op op_mod (pe_op op_fdivW (pv 4) pe_int) pe_int) pa_nil)))
      (pss_cons (ps_expr (pe_bm PySem.F.plainAttrs_list PySem.F.slot_list_append PySem.F.type_list_append mt_append (pv 1) (pa_cons (pe_op op_mod (pe_op op_fdivW (pv 4) pe_int) pe_int) pa_nil)))
      (pss_cons (ps_set (i := 4) sc_law_draws.nd rfl (Or.inl rfl) (pe_op op_mod (pe_op op_add (pv 4) (pe_op op_mulW pe_int (pe_op op_add (pv 2) pe_int))) pe_int))
      (pss_one (ps_expr (pe_bm PySem.F.plainAttrs_list PySem.F.slot_list_append PySem.F.type_list_append mt_append (pv 1) (pa_cons (pe_op op_mod (pe_op op_fdivW (pe_op op_mod (pe_op op_mulW (pv 4) (pv 4)) pe_int) pe_int) pe_int) pa_nil))))))))) (pss_cons (ps_set (i := 5) sc_law_draws.nd rfl (Or.inl rfl) pe_int)
      (pss_one (ps_while PassesOwn.never (PW.pt (pw_and (pt_cmpR op_ge (pv 3) pe_int (nomark _)) (pw_and1 (pt_cmpR op_lt (pv 5) pe_int (nomark _))))) (pss_cons (ps_expr (pe_bm PySem.F.plainAttrs_list PySem.F.slot_list_append PySem.F.type_list_append mt_append (pv 1) (pa_cons (pe_op op_mod (pv 3) pe_int) pa_nil)))
      (pss_cons (ps_set (i := 3) sc_law_draws.nd rfl (Or.inl rfl) (pe_op op_fdivW (pv 3) pe_int))
      (pss_one (ps_set (i := 5) sc_law_draws.nd rfl (Or.inl rfl) (pe_op op_add (pv 5) pe_int))))))))))))
      (pss_one (ps_ret (pe_slice sl_list (pv 1) po_none (po_some pe_int)))))))
theorem ok_law_take (F : FnP K "_law_take" s_law_take f fd) (g : mg "_law_take" = some (.ref f))  : Fn P w K mg base "_law_take" 1 ["draws", "many"] (sp_law_take K) := by
  refine ⟨f, fd, F.ok (k := 0) sc_law_take (fun vs H Q E h => by first | (obtain ⟨_, _, rfl, _⟩ := h; rfl) | (obtain ⟨_, _, _, rfl, _⟩ := h; rfl) | (obtain ⟨_, _, _, _, rfl, _⟩ := h; rfl) | (obtain ⟨_, _, _, _, _, rfl, _⟩ := h; rfl) | (obtain ⟨_, _, _, _, _, _, rfl, _⟩ := h; rfl) | (obtain ⟨_, _, _, _, _, _, _, rfl, _⟩ := h; rfl)) (fun cdv A outer s H vs Q E hr h => ⟨t_law_take K, PSs.nox ?_, r_law_take h⟩), g, F.kp, F.bindsN fun _ _ _ _ _ _ us hl => match us, hl with | [_, _], _ => rfl⟩
  exact (pss_fg (pss_cons (ps_if (pt_fg (pt_cmpR (op_eqD hr.units) (pv 0) (pe_lst pa_nil) (nomark _))) (pss_one (ps_ret pe_int)) pss_nil)
      (pss_one (ps_ret (pe_op op_mod (pe_bm PySem.F.plainAttrs_list PySem.F.slot_list_pop PySem.F.type_list_pop mt_popAt (pv 0) (pa_cons pe_int pa_nil)) (pv 1))))))
theorem ok_law_is_made (F : FnP K "_law_is_made" s_law_is_made f fd) (g : mg "_law_is_made" = some (.ref f))  : Fn P w K mg base "_law_is_made" 1 ["row", "number"] (sp_law_is_made K) := by
  refine ⟨f, fd, F.ok (k := 0) sc_law_is_made (fun vs H Q E h => by first | (obtain ⟨_, _, rfl, _⟩ := h; rfl) | (obtain ⟨_, _, _, rfl, _⟩ := h; rfl) | (obtain ⟨_, _, _, _, rfl, _⟩ := h; rfl) | (obtain ⟨_, _, _, _, _, rfl, _⟩ := h; rfl) | (obtain ⟨_, _, _, _, _, _, rfl, _⟩ := h; rfl) | (obtain ⟨_, _, _, _, _, _, _, rfl, _⟩ := h; rfl)) (fun cdv A outer s H vs Q E hr h => ⟨t_law_is_made K, PSs.nox ?_, r_law_is_made h⟩), g, F.kp, F.bindsN fun _ _ _ _ _ _ us hl => match us, hl with | [_, _], _ => rfl⟩
  exact (pss_fg (pss_cons (ps_for PassesOwn.never rfl (pi_list (pv 0)) (pg_name (i := 2) sc_law_is_made.nd rfl (Or.inl rfl)) (pss_one (ps_while PassesOwn.never (PW.pt (pw_and (pt_cmpR op_gt (pv 1) pe_int (nomark _)) (pw_and1 (pt_cmpR op_eq (pe_op op_mod (pv 1) (pv 2)) pe_int (nomark _))))) (pss_one (ps_set (i := 1) sc_law_is_made.nd rfl (Or.inl rfl) (pe_op op_fdivW (pv 1) (pv 2)))))))
      (pss_one (ps_ret (pe_cmpR op_eq (pv 1) pe_int (nomark _))))))
theorem ok_law_number (F : FnP K "_law_number" s_law_number f fd) (g : mg "_law_number" = some (.ref f)) (F_law_take : Fn P w K mg base "_law_take" 1 ["draws", "many"] (sp_law_take K)) (m_int : mg "int" = none) (m_max : mg "max" = none) (m_min : mg "min" = none) (m_range : mg "range" = none) : Fn P w K mg base "_law_number" 2 ["draws", "most"] (sp_law_number K) := by
  refine ⟨f, fd, F.ok (k := 1) sc_law_number (fun vs H Q E h => by first | (obtain ⟨_, _, rfl, _⟩ := h; rfl) | (obtain ⟨_, _, _, rfl, _⟩ := h; rfl) | (obtain ⟨_, _, _, _, rfl, _⟩ := h; rfl) | (obtain ⟨_, _, _, _, _, rfl, _⟩ := h; rfl) | (obtain ⟨_, _, _, _, _, _, rfl, _⟩ := h; rfl) | (obtain ⟨_, _, _, _, _, _, _, rfl, _⟩ := h; rfl)) (fun cdv A outer s H vs Q E hr h => ⟨t_law_number K, PSs.nox ?_, r_law_number h⟩), g, F.kp, F.bindsN fun _ _ _ _ _ _ us hl => match us, hl with | [_, _], _ => rfl⟩
  exact (pss_fg (pss_cons (ps_set (i := 2) sc_law_number.nd rfl (Or.inl rfl) pe_int)
      (pss_cons (ps_for PassesOwn.never rfl (pi_range1 (by rfl) m_range (pa_cons pe_int pa_nil)) (pg_name (i := 3) sc_law_number.nd rfl (Or.inl rfl)) (pss_one (ps_set (i := 2) sc_law_number.nd rfl (Or.inl rfl) (pe_op op_add (pe_op op_mulW (pv 2) pe_int) (pe_fn F_law_take (hr.mono (by decide)) (pa_cons (pv 0) (pa_cons pe_int pa_nil)))))))
      (pss_cons (ps_set (i := 4) sc_law_number.nd rfl (Or.inl rfl) pe_int)
      (pss_cons (ps_set (i := 5) sc_law_number.nd rfl (Or.inl rfl) (pe_fg (pe_ix ix_list (pe_lst (pa_cons pe_int (pa_cons pe_int (pa_cons pe_int (pa_cons pe_int (pa_cons pe_int (pa_cons pe_int pa_nil))))))) (pe_fn F_law_take (hr.mono (by decide)) (pa_cons (pv 0) (pa_cons pe_int pa_nil))) (fun _ _ => rfl))))
      (pss_cons (ps_for PassesOwn.never rfl (pi_range1 (by rfl) m_range (pa_cons (pe_fn F_law_take (hr.mono (by decide)) (pa_cons (pv 0) (pa_cons pe_int pa_nil))) pa_nil)) (pg_name (i := 3) sc_law_number.nd rfl (Or.inl rfl)) (pss_one (ps_set (i := 4) sc_law_number.nd rfl (Or.inl rfl) (pe_ifExp (pt_cmpR op_lt (pv 4) (pv 1) (nomark _)) (pe_op op_mulW (pv 4) (pv 5)) (pv 4)))))
      (pss_cons (ps_set (i := 6) sc_law_number.nd rfl (Or.inl rfl) (pe_callTy call_int_str (by rfl) m_int (by decide +kernel) (pa_cons (pe_op op_add_str pe_str (pe_op op_repS pe_str (pe_fn F_law_take (hr.mono (by decide)) (pa_cons (pv 0) (pa_cons pe_int pa_nil))))) pa_nil)))
      (pss_cons (ps_set (i := 7) sc_law_number.nd rfl (Or.inl rfl) (pe_lst (pa_cons (pe_fn F_law_take (hr.mono (by decide)) (pa_cons (pv 0) (pa_cons pe_int pa_nil))) (pa_cons (pe_fn F_law_take (hr.mono (by decide)) (pa_cons (pv 0) (pa_cons pe_int pa_nil))) (pa_cons (pe_op op_sub (pe_op op_add (pv 4) (pe_fn F_law_take (hr.mono (by decide)) (pa_cons (pv 0) (pa_cons pe_int pa_nil)))) pe_int) (pa_cons (pe_op op_mod (pv 2) (pv 6)) pa_nil))))))
      (pss_cons (ps_set (i := 7) sc_law_number.nd rfl (Or.inl rfl) (pe_fg (pe_op op_cat (pv 7) (pe_lst (pa_cons (pe_op op_mod (pv 2) (pe_op op_add (pv 1) pe_int)) (pa_cons (pe_op op_mod (pv 2) (pe_op op_add (pv 1) pe_int)) (pa_cons (pv 1) pa_nil)))))))
      (pss_one (ps_ret (pe_callB (call_max2 rfl) (by rfl) m_max (by decide +kernel) (pa_cons pe_int (pa_cons (pe_callB (call_min2 rfl) (by rfl) m_min (by decide +kernel) (pa_cons (pv 1) (pa_cons (pe_ix ix_list (pv 7) (pe_fn F_law_take (hr.mono (by decide)) (pa_cons (pv 0) (pa_cons pe_int pa_nil))) (fun _ _ => rfl)) pa_nil))) pa_nil))))))))))))))
theorem ok_law_whole (F : FnP K "_law_whole" s_law_whole f fd) (g : mg "_law_whole" = some (.ref f)) (m_bool : mg "bool" = none) (m_int : mg "int" = none) (m_isinstance : mg "isinstance" = none) : Fn P w K mg base "_law_whole" 1 ["thing"] (sp_law_whole K) := by
  refine ⟨f, fd, F.ok (k := 0) sc_law_whole (fun vs H Q E h => by first | (obtain ⟨_, _, rfl, _⟩ := h; rfl) | (obtain ⟨_, _, _, rfl, _⟩ := h; rfl) | (obtain ⟨_, _, _, _, rfl, _⟩ := h; rfl) | (obtain ⟨_, _, _, _, _, rfl, _⟩ := h; rfl) | (obtain ⟨_, _, _, _, _, _, rfl, _⟩ := h; rfl) | (obtain ⟨_, _, _, _, _, _, _, rfl, _⟩ := h; rfl)) (fun cdv A outer s H vs Q E hr h => ⟨t_law_whole K, PSs.nox ?_, r_law_whole h⟩), g, F.kp, F.bindsN fun _ _ _ _ _ _ us hl => match us, hl with | [_], _ => rfl⟩
  exact (pss_fg (pss_one (ps_ret (pe_and (pe_callB call_isi (by rfl) m_isinstance (by decide +kernel) (pa_cons (pv 0) (pa_cons (pe_bltn (v := .ty "int") (by rfl) m_int (by decide +kernel) rfl) pa_nil))) (pe_one (pe_not (pe_callB call_isi (by rfl) m_isinstance (by decide +kernel) (pa_cons (pv 0) (pa_cons (pe_bltn (v := .ty "bool") (by rfl) m_bool (by decide +kernel) rfl) pa_nil)))))))))
theorem okD_law_sum (F : FnP K "_law_sum" s_law_sum f fd) (g : mg "_law_sum" = some (.ref f))  : ∀ d : Nat, Fn P w K mg base "_law_sum" d ["number"] (sp_law_sumD d K)
  | 0 => ⟨f, fd, ⟨fun vs H Q E h => by exact (z_law_sum h).elim, fun A outer s H args us vs Q E hr e0 hb hv h => (z_law_sum h).elim⟩, g, F.kp, F.bindsN fun _ _ _ _ _ _ us hl => match us, hl with | [_], _ => rfl⟩
  | d + 1 => by
    have F_law_sum := okD_law_sum F g  d
    refine ⟨f, fd, F.ok sc_law_sum (fun vs H Q E h => by first | (obtain ⟨_, _, rfl, _⟩ := h; rfl) | (obtain ⟨_, _, _, rfl, _⟩ := h; rfl) | (obtain ⟨_, _, _, _, rfl, _⟩ := h; rfl) | (obtain ⟨_, _, _, _, _, rfl, _⟩ := h; rfl) | (obtain ⟨_, _, _, _, _, _, rfl, _⟩ := h; rfl) | (obtain ⟨_, _, _, _, _, _, _, rfl, _⟩ := h; rfl)) (fun cdv A outer s H vs Q E hr h => ⟨t_law_sum K d, PSs.nox ?_, r_law_sum h⟩), g, F.kp, F.bindsN fun _ _ _ _ _ _ us hl => match us, hl with | [_], _ => rfl⟩
    exact (pss_fg (pss_cons (ps_if (pt_cmpR op_eq (pv 0) pe_int (nomark _)) (pss_one (ps_ret (pe_lst pa_nil))) pss_nil)
      (pss_cons (ps_if (pt_cmpR op_eq (pe_op op_mod (pv 0) pe_int) pe_int (nomark _)) (pss_one (ps_ret (pe_fg (pe_lc (own := [("one", 2)]) (g := (gName 2)) (tt := tYes) rfl sc_law_sum.nd (pi_list (pe_fn F_law_sum hr (pa_cons (pe_op op_fdivW (pv 0) pe_int) pa_nil))) (blkOk_by (N := N_law_sum) (sc := defScope s_law_sum) (by decide +kernel)) (fun _ _ _ _ _ => (pg_name (i := 2) sc_law_sum.nd rfl (Or.inl rfl))) (fun _ _ _ _ _ => pts_nil) (fun _ _ _ _ _ => (pe_op op_mulW pe_int (pv 2))))))) pss_nil)
      (pss_cons (ps_set (i := 1) sc_law_sum.nd rfl (Or.inl rfl) pe_int)
      (pss_cons (ps_while PassesOwn.never (pt_cmpR op_le (pe_op op_mulW (pv 1) pe_int) (pv 0) (nomark _)) (pss_one (ps_set (i := 1) sc_law_sum.nd rfl (Or.inl rfl) (pe_op op_mulW (pv 1) pe_int))))
      (pss_one (ps_ret (pe_fg (pe_op op_cat (pe_lst (pa_cons (pv 1) pa_nil)) (pe_fn F_law_sum hr (pa_cons (pe_op op_sub (pv 0) (pv 1)) pa_nil)))))))))))
theorem ok_law_good (F : FnP K "_law_good" s_law_good f fd) (g : mg "_law_good" = some (.ref f)) (F_law_is_made : Fn P w K mg base "_law_is_made" 1 ["row", "number"] (sp_law_is_made K)) (m_bool : mg "bool" = none) (m_enumerate : mg "enumerate" = none) (m_int : mg "int" = none) (m_isinstance : mg "isinstance" = none) (m_list : mg "list" = none) : Fn P w K mg base "_law_good" 2 ["number", "thing"] (sp_law_good K) := by
  refine ⟨f, fd, F.ok (k := 1) sc_law_good (fun vs H Q E h => by first | (obtain ⟨_, _, rfl, _⟩ := h; rfl) | (obtain ⟨_, _, _, rfl, _⟩ := h; rfl) | (obtain ⟨_, _, _, _, rfl, _⟩ := h; rfl) | (obtain ⟨_, _, _, _, _, rfl, _⟩ := h; rfl) | (obtain ⟨_, _, _, _, _, _, rfl, _⟩ := h; rfl) | (obtain ⟨_, _, _, _, _, _, _, rfl, _⟩ := h; rfl)) (fun cdv A outer s H vs Q E hr h => ⟨t_law_good K, PSs.nox ?_, r_law_good h⟩), g, F.kp, F.bindsN fun _ _ _ _ _ _ us hl => match us, hl with | [_, _], _ => rfl⟩
  exact (pss_fg (pss_cons (ps_if (pt_not (pt_val (pe_callB call_isi (by rfl) m_isinstance (by decide +kernel) (pa_cons (pv 1) (pa_cons (pe_bltn (v := .ty "list") (by rfl) m_list (by decide +kernel) rfl) pa_nil))))) (pss_one (ps_ret pe_bl)) pss_nil)
      (pss_cons (ps_set (i := 2) sc_law_good.nd rfl (Or.inl rfl) pe_int)
      (pss_cons (ps_for PassesOwn.never rfl (pi_enum (by rfl) m_enumerate (pa_cons (pv 1) pa_nil)) (pg_tup rfl (pgs_cons (pg_name (i := 3) sc_law_good.nd rfl (Or.inl rfl)) (pgs_cons (pg_name (i := 4) sc_law_good.nd rfl (Or.inr rfl)) pgs_nil))) (pss_cons (ps_if (PW.pt (pw_or (pt_not (pt_val (pe_callB call_isi (by rfl) m_isinstance (by decide +kernel) (pa_cons (pv 4) (pa_cons (pe_bltn (v := .ty "int") (by rfl) m_int (by decide +kernel) rfl) pa_nil))))) (pw_or (pt_val (pe_callB call_isi (by rfl) m_isinstance (by decide +kernel) (pa_cons (pv 4) (pa_cons (pe_bltn (v := .ty "bool") (by rfl) m_bool (by decide +kernel) rfl) pa_nil)))) (pw_or (pt_cmpR op_lt (pv 4) pe_int (nomark _)) (pw_or1 (pt_not (pt_val (pe_fg (pe_fn F_law_is_made (hr.mono (by decide)) (pa_cons (pe_lst (pa_cons pe_int (pa_cons pe_int pa_nil))) (pa_cons (pv 4) pa_nil))))))))))) (pss_one (ps_ret pe_bl)) pss_nil)
      (pss_cons (ps_if (pt_fg (pt_cmpR (op_neD hr.units) (pe_fg (pe_lc (own := [("other", 5)]) (g := (gName 5)) (tt := (tOr (tTest (tOp oLe (tVar 5) (tVar 4))) (tTest (tOp rEq (tOp oMod (tVar 5) (tVar 4)) (tC (.int 0)))))) rfl sc_law_good.nd (pi_list (pe_slice sl_list (pv 1) po_none (po_some (pv 3)))) (blkOk_by (N := N_law_good) (sc := defScope s_law_good) (by decide +kernel)) (fun _ _ _ _ _ => (pg_name (i := 5) sc_law_good.nd rfl (Or.inl rfl))) (fun _ _ _ _ _ => (pts_one (PW.pt (pw_or (pt_cmpR op_le (pv 5) (pv 4) (nomark _)) (pw_or1 (pt_cmpR op_eq (pe_op op_mod (pv 5) (pv 4)) pe_int (nomark _))))))) (fun _ _ _ _ _ => (pv 5)))) (pe_lst pa_nil) (nomark _))) (pss_one (ps_ret pe_bl)) pss_nil)
      (pss_one (ps_set (i := 2) sc_law_good.nd rfl (Or.inl rfl) (pe_op op_add (pv 2) (pv 4)))))))
      (pss_one (ps_ret (pe_cmpR op_eq (pv 2) (pv 0) (nomark _))))))))
theorem ok_law_right (F : FnP K "_law_right" s_law_right f fd) (g : mg "_law_right" = some (.ref f)) (F_law_sum : Fn P w K mg base "_law_sum" 201 ["number"] (sp_law_sum K)) (F_law_good : Fn P w K mg base "_law_good" 2 ["number", "thing"] (sp_law_good K)) (F_as_sum : Fn P w K mg base "as_sum" 1 ["number"] (sp_as_sum K)) (F_law_whole : Fn P w K mg base "_law_whole" 1 ["thing"] (sp_law_whole K)) (m_isinstance : mg "isinstance" = none) (m_list : mg "list" = none) (m_range : mg "range" = none) (m_sorted : mg "sorted" = none) : Fn P w K mg base "_law_right" 202 ["number"] (sp_law_right K) := by
  refine ⟨f, fd, F.ok (k := 201) sc_law_right (fun vs H Q E h => by first | (obtain ⟨_, _, rfl, _⟩ := h; rfl) | (obtain ⟨_, _, _, rfl, _⟩ := h; rfl) | (obtain ⟨_, _, _, _, rfl, _⟩ := h; rfl) | (obtain ⟨_, _, _, _, _, rfl, _⟩ := h; rfl) | (obtain ⟨_, _, _, _, _, _, rfl, _⟩ := h; rfl) | (obtain ⟨_, _, _, _, _, _, _, rfl, _⟩ := h; rfl)) (fun cdv A outer s H vs Q E hr h => ⟨t_law_right K, PSs.nox ?_, r_law_right h⟩), g, F.kp, F.bindsN fun _ _ _ _ _ _ us hl => match us, hl with | [_], _ => rfl⟩
  exact (pss_fg (pss_cons (ps_set (i := 1) sc_law_right.nd rfl (Or.inl rfl) (pe_fg (pe_revL (pe_fg (pe_callB cr_sortedI (by rfl) m_sorted (by decide +kernel) (pa_cons (pe_fn F_law_sum (hr.mono (by decide)) (pa_cons (pv 0) pa_nil)) pa_nil))))))
      (pss_cons (ps_if (pt_not (pt_val (pe_fn F_law_good (hr.mono (by decide)) (pa_cons (pv 0) (pa_cons (pv 1) pa_nil))))) (pss_one (ps_ret pe_bl)) pss_nil)
      (pss_cons (ps_for PassesOwn.never rfl (pi_range1 (by rfl) m_range (pa_cons pe_int pa_nil)) (pg_name (i := 2) sc_law_right.nd rfl (Or.inl rfl)) (pss_cons (ps_set (i := 3) sc_law_right.nd rfl (Or.inl rfl) (pe_fn F_as_sum (hr.mono (by decide)) (pa_cons (pv 0) pa_nil)))
      (pss_cons (ps_if (PW.pt (pw_or (pt_not (pt_val (pe_callB call_isi (by rfl) m_isinstance (by decide +kernel) (pa_cons (pv 3) (pa_cons (pe_bltn (v := .ty "list") (by rfl) m_list (by decide +kernel) rfl) pa_nil))))) (pw_or (pt_cmpR (op_neD hr.units) (pv 3) (pv 1) (nomark _)) (pw_or1 (pt_fg (pt_cmpR (op_neD hr.units) (pe_lc (own := [("one", 4)]) (g := (gName 4)) (tt := (tNot (tB (tCall (sp_law_whole K) [] E0 (tCons (tVar 4) tNil))))) rfl sc_law_right.nd (pi_list (pv 3)) (blkOk_by (N := N_law_right) (sc := defScope s_law_right) (by decide +kernel)) (fun _ _ _ _ _ => (pg_name (i := 4) sc_law_right.nd rfl (Or.inl rfl))) (fun _ _ _ _ _ => (pts_one (pt_not (pt_val (pe_fn F_law_whole (hr.mono (by decide)) (pa_cons (pv 4) pa_nil)))))) (fun _ _ _ _ _ => pe_int)) (pe_lst pa_nil) (nomark _))))))) (pss_one (ps_ret pe_bl)) pss_nil)
      (pss_cons (ps_expr (pe_bm PySem.F.plainAttrs_list PySem.F.slot_list_append PySem.F.type_list_append mt_append (pv 3) (pa_cons pe_non pa_nil)))
      (pss_one (ps_asg pe_non (pg_sub (pv 3) pe_int set_list)))))))
      (pss_one (ps_ret pe_bl))))))
theorem ok_law (F : FnP K "law" s_law f fd) (F_law_draws : Fn P w K mg base "_law_draws" 1 ["script"] (sp_law_draws K)) (F_law_number : Fn P w K mg base "_law_number" 2 ["draws", "most"] (sp_law_number K)) (F_law_right : Fn P w K mg base "_law_right" 202 ["number"] (sp_law_right K)) (F_as_sum : Fn P w K mg base "as_sum" 1 ["number"] (sp_as_sum K)) (m_min : mg "min" = none) : FnOk P w K mg base CX0 203 f fd ["script"] (sp_law K) := by
  refine F.ok (k := 202) sc_law (fun vs H Q E h => by first | (obtain ⟨_, _, rfl, _⟩ := h; rfl) | (obtain ⟨_, _, _, rfl, _⟩ := h; rfl) | (obtain ⟨_, _, _, _, rfl, _⟩ := h; rfl) | (obtain ⟨_, _, _, _, _, rfl, _⟩ := h; rfl) | (obtain ⟨_, _, _, _, _, _, rfl, _⟩ := h; rfl) | (obtain ⟨_, _, _, _, _, _, _, rfl, _⟩ := h; rfl)) (fun cdv A outer s H vs Q E hr h => ⟨t_law K, PSs.nox ?_, r_law h⟩)
  exact (pss_fg (pss_cons (ps_set (i := 1) sc_law.nd rfl (Or.inl rfl) (pe_fn F_law_draws (hr.mono (by decide)) (pa_cons (pv 0) pa_nil)))
      (pss_cons (ps_set (i := 2) sc_law.nd rfl (Or.inl rfl) pe_int)
      (pss_cons (ps_while PassesOwn.never (PW.pt (pw_or (pt_cmpR op_lt (pv 2) pe_int (nomark _)) (pw_or1 (PW.pt (pw_and (pt_fg (pt_cmpR (op_neD hr.units) (pv 1) (pe_lst pa_nil) (nomark _))) (pw_and1 (pt_cmpR op_lt (pv 2) pe_int (nomark _)))))))) (pss_cons (ps_set (i := 3) sc_law.nd rfl (Or.inl rfl) (pe_fn F_law_number (hr.mono (by decide)) (pa_cons (pv 1) (pa_cons (pe_op op_pow pe_int pe_int) pa_nil))))
      (pss_cons (ps_for PassesOwn.never rfl (pi_tup (pe_tup (pa_cons (pv 3) (pa_cons (pe_callB (call_min2 rfl) (by rfl) m_min (by decide +kernel) (pa_cons (pe_op op_pow pe_int pe_int) (pa_cons (pe_op op_add (pv 3) pe_int) pa_nil))) (pa_cons (pe_op op_fdivW (pv 3) pe_int) pa_nil))))) (pg_name (i := 4) sc_law.nd rfl (Or.inl rfl)) (pss_one (ps_if (pt_not (pt_val (pe_fn F_law_right (hr.mono (by decide)) (pa_cons (pv 4) pa_nil)))) (pss_one (ps_ret pe_bl)) pss_nil)))
      (pss_one (ps_set (i := 2) sc_law.nd rfl (Or.inl rfl) (pe_op op_add (pv 2) pe_int))))))
      (pss_cons (ps_if (PW.pt (pw_or (pt_not (pt_val (pe_fn F_law_right (hr.mono (by decide)) (pa_cons pe_int pa_nil)))) (pw_or (pt_not (pt_val (pe_fn F_law_right (hr.mono (by decide)) (pa_cons pe_int pa_nil)))) (pw_or1 (pt_not (pt_val (pe_fn F_law_right (hr.mono (by decide)) (pa_cons (pe_op op_pow pe_int pe_int) pa_nil)))))))) (pss_one (ps_ret pe_bl)) pss_nil)
      (pss_one (ps_ret (pe_and (pe_fg (pe_cmpR (op_eqD hr.units) (pe_fn F_as_sum (hr.mono (by decide)) (pa_cons pe_int pa_nil)) (pe_lst (pa_cons pe_int (pa_cons pe_int pa_nil))) (nomark _))) (pe_one (pe_fg (pe_cmpR (op_eqD hr.units) (pe_fn F_as_sum (hr.mono (by decide)) (pa_cons pe_int pa_nil)) (pe_lst (pa_cons pe_int (pa_cons pe_int (pa_cons pe_int pa_nil)))) (nomark _))))))))))))
end
/-! ### what the top has left -/
def d_as_sum : He.DefD := ⟨("as_sum", none), "as_sum", "as_sum", defArgs s_as_sum, defBody s_as_sum, defScope s_as_sum, [], []⟩
def d_law_draws : He.DefD := ⟨("_law_draws", none), "_law_draws", "_law_draws", defArgs s_law_draws, defBody s_law_draws, defScope s_law_draws, [], []⟩
def d_law_take : He.DefD := ⟨("_law_take", none), "_law_take", "_law_take", defArgs s_law_take, defBody s_law_take, defScope s_law_take, [], []⟩
def d_law_is_made : He.DefD := ⟨("_law_is_made", none), "_law_is_made", "_law_is_made", defArgs s_law_is_made, defBody s_law_is_made, defScope s_law_is_made, [], []⟩
def d_law_number : He.DefD := ⟨("_law_number", none), "_law_number", "_law_number", defArgs s_law_number, defBody s_law_number, defScope s_law_number, [], []⟩
def d_law_whole : He.DefD := ⟨("_law_whole", none), "_law_whole", "_law_whole", defArgs s_law_whole, defBody s_law_whole, defScope s_law_whole, [], []⟩
def d_law_sum : He.DefD := ⟨("_law_sum", none), "_law_sum", "_law_sum", defArgs s_law_sum, defBody s_law_sum, defScope s_law_sum, [], []⟩
def d_law_good : He.DefD := ⟨("_law_good", none), "_law_good", "_law_good", defArgs s_law_good, defBody s_law_good, defScope s_law_good, [], []⟩
def d_law_right : He.DefD := ⟨("_law_right", none), "_law_right", "_law_right", defArgs s_law_right, defBody s_law_right, defScope s_law_right, [], []⟩
def d_law : He.DefD := ⟨("law", none), "law", "law", defArgs s_law, defBody s_law, defScope s_law, [], []⟩
def fn : List He.DefD := [d_as_sum, d_law_draws, d_law_take, d_law_is_made, d_law_number, d_law_whole, d_law_sum, d_law_good, d_law_right, d_law]
def fa : List He.Fa := [.glo "as_sum", .glo "_law_draws", .glo "_law_take", .glo "_law_is_made", .glo "_law_number", .glo "_law_whole", .glo "_law_sum", .glo "_law_good", .glo "_law_right", .glo "law", .free "abs", .free "bool", .free "enumerate", .free "int", .free "isinstance", .free "len", .free "list", .free "max", .free "min", .free "range", .free "sorted"]
abbrev R : PySem.W.OpenRow := PySem.W.OpenLaw.row PySem.Challenge.rw_smallparts_k33_sums_told
abbrev hk : PySem.W.Hook := He.hookD 4 fa fn
def ob (s : PySem.W.SharedT) : He.AlD := He.obsDG 4 fa fn (HandSHeadRun.getT s)
theorem ob_eq (s : PySem.W.SharedT) : ob s = hk.obs s.abs := He.obsDG_eq (HandSHeadRun.getT_eq s)
def loose : List Str := ["as_sum", "_law_draws", "_law_take", "_law_row", "_law_made", "_law_is_made", "_law_next", "_law_last", "_law_number", "_law_whole", "_law_sum", "_law_good", "_law_right"]
theorem run (w : World) : HandSHeadRun.RunEq R (PySem.W.view R.prog [15]) hk ob 4000 loose w := by
  intro os
  kernel_rfl
theorem facts {P : Program} {w : World} {K : PySem.W.Frag} {h : Heap} {mg : Str → Option Value} {f : Addr} (X : K.In h) (G : h.Ns mainGlobals mg) (hfa : mg ("law" : Str) = some (.ref f)) (c : He.SaysD fa fn K) :
    ∃ fd : FuncData, (∀ (s : Shared) (v : Value), BindsTo s fd ⟨[v], []⟩ [("script", v)]) ∧ ∀ base : Heap, K.In base → base.Ns mainGlobals mg → FnOk P w K mg base CX0 203 f fd ["script"] (sp_law K) := by
  obtain ⟨fd_as_sum, H_as_sum⟩ := c.def_ 0 (d := d_as_sum) rfl
  obtain ⟨fd_law_draws, H_law_draws⟩ := c.def_ 1 (d := d_law_draws) rfl
  obtain ⟨fd_law_take, H_law_take⟩ := c.def_ 2 (d := d_law_take) rfl
  obtain ⟨fd_law_is_made, H_law_is_made⟩ := c.def_ 3 (d := d_law_is_made) rfl
  obtain ⟨fd_law_number, H_law_number⟩ := c.def_ 4 (d := d_law_number) rfl
  obtain ⟨fd_law_whole, H_law_whole⟩ := c.def_ 5 (d := d_law_whole) rfl
  obtain ⟨fd_law_sum, H_law_sum⟩ := c.def_ 6 (d := d_law_sum) rfl
  obtain ⟨fd_law_good, H_law_good⟩ := c.def_ 7 (d := d_law_good) rfl
  obtain ⟨fd_law_right, H_law_right⟩ := c.def_ 8 (d := d_law_right) rfl
  obtain ⟨fd_law, H_law⟩ := c.def_ 9 (d := d_law) rfl
  have m_abs := He.free_ok X G (c.fact 10 (f := .free "abs") rfl)
  have m_bool := He.free_ok X G (c.fact 11 (f := .free "bool") rfl)
  have m_enumerate := He.free_ok X G (c.fact 12 (f := .free "enumerate") rfl)
  have m_int := He.free_ok X G (c.fact 13 (f := .free "int") rfl)
  have m_isinstance := He.free_ok X G (c.fact 14 (f := .free "isinstance") rfl)
  have m_len := He.free_ok X G (c.fact 15 (f := .free "len") rfl)
  have m_list := He.free_ok X G (c.fact 16 (f := .free "list") rfl)
  have m_max := He.free_ok X G (c.fact 17 (f := .free "max") rfl)
  have m_min := He.free_ok X G (c.fact 18 (f := .free "min") rfl)
  have m_range := He.free_ok X G (c.fact 19 (f := .free "range") rfl)
  have m_sorted := He.free_ok X G (c.fact 20 (f := .free "sorted") rfl)
  have g_as_sum := He.glo_ok X G (c.fact 0 (f := .glo "as_sum") rfl)
  have g_law_draws := He.glo_ok X G (c.fact 1 (f := .glo "_law_draws") rfl)
  have g_law_take := He.glo_ok X G (c.fact 2 (f := .glo "_law_take") rfl)
  have g_law_is_made := He.glo_ok X G (c.fact 3 (f := .glo "_law_is_made") rfl)
  have g_law_number := He.glo_ok X G (c.fact 4 (f := .glo "_law_number") rfl)
  have g_law_whole := He.glo_ok X G (c.fact 5 (f := .glo "_law_whole") rfl)
  have g_law_sum := He.glo_ok X G (c.fact 6 (f := .glo "_law_sum") rfl)
  have g_law_good := He.glo_ok X G (c.fact 7 (f := .glo "_law_good") rfl)
  have g_law_right := He.glo_ok X G (c.fact 8 (f := .glo "_law_right") rfl)
  have g_law := He.glo_ok X G (c.fact 9 (f := .glo "law") rfl)
  have e := hfa.symm.trans g_law
  cases e
  have b := FunD.bindsA (ps := ["script"]) H_law fun _ _ _ _ _ _ us hl => match us, hl with | [_], _ => rfl
  refine ⟨fd_law, fun s v => b s [v] rfl, fun base _ _ => ?_⟩
  have F_as_sum := ok_as_sum (P := P) (w := w) (base := base) H_as_sum g_as_sum m_sorted
  have F_law_draws := ok_law_draws (P := P) (w := w) (base := base) H_law_draws g_law_draws m_abs m_len m_min m_range
  have F_law_take := ok_law_take (P := P) (w := w) (base := base) H_law_take g_law_take 
  have F_law_is_made := ok_law_is_made (P := P) (w := w) (base := base) H_law_is_made g_law_is_made 
  have F_law_number := ok_law_number (P := P) (w := w) (base := base) H_law_number g_law_number F_law_take m_int m_max m_min m_range
  have F_law_whole := ok_law_whole (P := P) (w := w) (base := base) H_law_whole g_law_whole m_bool m_int m_isinstance
  have F_law_sum : Fn P w K mg base "_law_sum" 201 _ (sp_law_sum K) := okD_law_sum H_law_sum g_law_sum  201
  have F_law_good := ok_law_good (P := P) (w := w) (base := base) H_law_good g_law_good F_law_is_made m_bool m_enumerate m_int m_isinstance m_list
  have F_law_right := ok_law_right (P := P) (w := w) (base := base) H_law_right g_law_right F_law_sum F_law_good F_as_sum F_law_whole m_isinstance m_list m_range m_sorted
  exact ok_law H_law F_law_draws F_law_number F_law_right F_as_sum m_min
end K33
open PySem PySem.W PySem.Calls PyProof.Rows
theorem PySem.Challenge.cw_smallparts_k33_sums_told_holds : PySem.Challenge.rw_smallparts_k33_sums_told.Holds := by
  w_on; o_law
  refine HandSHeadRun.head_any (r := OpenLaw.row PySem.Challenge.rw_smallparts_k33_sums_told) (q := view (OpenLaw.row PySem.Challenge.rw_smallparts_k33_sums_told).prog [15]) (H := K33.hk) (ob := K33.ob) (M := 4000) (loose := K33.loose) (d := HandSHeadRun.topDef (OpenLaw.row PySem.Challenge.rw_smallparts_k33_sums_told).prog 15) (kwd := []) K33.ob_eq
    (by kernel_rfl) (fun s => by kernel_rfl) K33.run (by kernel_rfl) (by kernel_rfl) (by kernel_rfl) (by rfl) (by first | assumption | decide +kernel) (by decide +kernel) ⟨rfl, rfl, rfl, rfl, rfl, by decide +kernel⟩ ?hw ?hc
  case hw => w_witness2
  case hc =>
    refine L2.walk_ofE (l := PySem.Challenge.rw_smallparts_k33_sums_told) (n := 63) (k := 203) (x := "script") (CX := L2.CX0) rfl (by decide) (by kernel_rfl) ⟨rfl, by decide, by decide⟩ ?F (fun _ _ _ _ z => z)
    intro w mg fa h Y G hmg0
    obtain ⟨K, KX, c⟩ := Y
    have hmg : mg ("law" : PySem.Str) = some (.ref fa) := by
      have e : (HandSHeadRun.topDef (OpenLaw.row PySem.Challenge.rw_smallparts_k33_sums_told).prog 15).name = ("law" : PySem.Str) := by kernel_rfl
      rw [← e]
      exact hmg0
    obtain ⟨fd, hb, hF⟩ := K33.facts (P := (PySem.Challenge.rw_smallparts_k33_sums_told).prog) (w := w) KX G hmg c
    exact ⟨K, fd, Px.sp_law K, KX, hb, fun H a ns hl ho hS => ⟨Px.nod_only ho, a, ns, rfl, hS, hl, fun _ => rfl⟩, hF⟩
