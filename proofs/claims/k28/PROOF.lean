import PyProof.Rows.All
import Wide.All
import OpenK.AllK
import Wide.FinOn
import HandS.HeadHook2
import HandS.ForMost
import HandS.ForExc
import HandS.Style
import HandS.SortInts
import HandS.IsInst
import HandS.Wide
import HandS.Flow
import HandS.WideMore
import HandS.Walk
import HandS.Evl
import HandS.Defaults
import PyProof.Rows.StrMul
import PyProof.StrBlock2
import KE.KDictZip
import KE.KDictItemsList
import KE.KStateDown
import Lean
import HandS.Base
import HandS.Call
import HandS.Ends
import HandS.More
import HandS.Words
import HandS.WordsExc
import HandS.Head0
import HandS.Head1
import HandS.Head2
import HandS.HeadEnd
import HandS.HeadHook1
import PySem.Challenge.RW_smallparts_k28_nearest_of_great_numbers
set_option Elab.async false
set_option linter.all false
namespace Px
open PySem L2
/-! what the top has left, with lists of the module's own -/
abbrev AlL : Type := He.AlD × Bool
def obsL (n : Nat) (fa : List He.Fa) (fn : List He.DefD) (ls : List (Str × List He.Dv)) (g : Addr → Option Obj) : AlL :=
  (He.obsD fa fn (He.frG g (He.asD g n)), ls.all fun q => He.lstB (He.frG g (He.asD g n)) q.1 q.2)
def hookL (n : Nat) (fa : List He.Fa) (fn : List He.DefD) (ls : List (Str × List He.Dv)) : PySem.W.Hook where
  α := AlL
  obs := fun s => obsL n fa fn ls s.heap.get?
  val := fun _ => (He.valD fn, true)
  says := fun _ h => ∃ K : PySem.W.Frag, K.In h ∧ He.SaysD fa fn K ∧ (ls.all fun q => He.lstB K q.1 q.2) = true
  of := fun _ _ e => ⟨_, He.frG_in, congrArg (fun z : AlL => z.1) e, congrArg (fun z : AlL => z.2) e⟩
  keeps := fun _ _ _ ⟨K, hK, c1, c2⟩ k => ⟨K, PySem.W.Frag.In.keeps hK k, c1, c2⟩
theorem obsL_eq {n : Nat} {fa : List He.Fa} {fn : List He.DefD} {ls : List (Str × List He.Dv)} {g : Addr → Option Obj} {s : Shared} (h : ∀ a, g a = s.heap.get? a) : obsL n fa fn ls g = (hookL n fa fn ls).obs s := by
  have e : g = s.heap.get? := funext h
  subst e; rfl
theorem lst_fact {ls : List (Str × List He.Dv)} {K : PySem.W.Frag} (h : (ls.all fun q => He.lstB K q.1 q.2) = true) (i : Nat) {x : Str} {vs : List He.Dv} (e : ls[i]? = some (x, vs)) : He.lstB K x vs = true := List.all_eq_true.mp h (x, vs) (List.mem_of_getElem? e)
end Px
set_option Elab.async false
set_option linter.all false
set_option maxRecDepth 100000
set_option maxHeartbeats 4000000
namespace Px
open PySem L2

/-! ### forgetting what is no longer needed -/
def flat : HO → Prop
  | .dT _ => False
  | .frz _ u => flat u
  | _ => True
class Nod (H : Hp) : Prop where
  nod : ∀ a o, H a = some o → flat o
theorem nod_upd {H : Hp} {p : Addr} {o : HO} (n : Nod H) (f : flat o) : Nod (upd H p o) := ⟨fun a u e => by
  by_cases h : a = p
  · subst h
    rw [upd_same] at e
    cases e
    exact f
  · rw [upd_ne h] at e
    exact n.nod a u e⟩
instance nod_lst {H : Hp} {p : Addr} {xs : List V} [n : Nod H] : Nod (upd H p (.lst xs)) := nod_upd n trivial
instance nod_tup {H : Hp} {p : Addr} {xs : List V} [n : Nod H] : Nod (upd H p (.tup xs)) := nod_upd n trivial
instance nod_dK {H : Hp} {p : Addr} {xs : List (Key × V)} [n : Nod H] : Nod (upd H p (.dK xs)) := nod_upd n trivial
instance nod_ins {H : Hp} {p C dx : Addr} {fs : List (Str × V)} [n : Nod H] : Nod (upd H p (.ins C dx fs)) := nod_upd n trivial
instance nod_own {H : Hp} {p x : Addr} [n : Nod H] : Nod (upd H p (.own x)) := nod_upd n trivial
theorem nod_only {H : Hp} (h : Only H) : Nod H := ⟨fun a o e => by
  rcases h a with z | ⟨ob, xs, z⟩
  · rw [z] at e; cases e
  · rw [z] at e; cases e; trivial⟩

/-- all that was tracked is as it was -/
def Ex (H H' : Hp) : Prop := ∀ a o, H a = some o → H' a = some o
theorem ex_refl {H : Hp} : Ex H H := fun _ _ h => h
theorem ex_trans {H H1 H2 : Hp} (a : Ex H H1) (b : Ex H1 H2) : Ex H H2 := fun x o h => b x o (a x o h)
theorem ex_upd {H H' : Hp} {p : Addr} {o : HO} (h : H p = none) (e : Ex H H') : Ex H (upd H' p o) := fun a u ha => by
  rw [upd_ne (ne_of_none ha h)]
  exact e a u ha
theorem ex_new {H : Hp} {p : Addr} {o : HO} (h : H p = none) : Ex H (upd H p o) := ex_upd h ex_refl
theorem ex_none {H H' : Hp} {p : Addr} (e : Ex H H') (h : H' p = none) : H p = none := by
  cases q : H p with
  | none => rfl
  | some o => rw [e p o q] at h; cases h
theorem none_upd {H : Hp} {p q : Addr} {o : HO} (h : upd H q o p = none) : H p = none ∧ p ≠ q := by
  by_cases e : p = q
  · subst e; rw [upd_same] at h; cases h
  · rw [upd_ne e] at h; exact ⟨h, e⟩
theorem ex_sq {K : PySem.W.Frag} {H H' : Hp} {a : Addr} {xs : List V} (e : Ex H H') (h : SqL K H a xs) : SqL K H' a xs := by
  rcases h with (h | ⟨o, h⟩) | h
  · exact .inl (.inl (e _ _ h))
  · exact .inl (.inr ⟨o, e _ _ h⟩)
  · exact .inr h
theorem ex_sqt {K : PySem.W.Frag} {H H' : Hp} {a : Addr} {xs : List V} (e : Ex H H') (h : SqT K H a xs) : SqT K H' a xs := by
  rcases h with (h | ⟨o, h⟩) | h
  · exact .inl (.inl (e _ _ h))
  · exact .inl (.inr ⟨o, e _ _ h⟩)
  · exact .inr h
theorem sq_new {K : PySem.W.Frag} {H : Hp} {a p : Addr} {xs : List V} {o : HO} (hp : H p = none) (h : SqL K H a xs) : SqL K (upd H p o) a xs := ex_sq (ex_new hp) h
theorem sq_ne {K : PySem.W.Frag} {H : Hp} {a p : Addr} {xs : List V} {o : HO} (hp : a ≠ p) (h : SqL K H a xs) : SqL K (upd H p o) a xs := by
  rcases h with (h | ⟨ob, h⟩) | h
  · exact .inl (.inl (by rw [upd_ne hp]; exact h))
  · exact .inl (.inr ⟨ob, by rw [upd_ne hp]; exact h⟩)
  · exact .inr h
theorem sq_at {K : PySem.W.Frag} {H : Hp} {a : Addr} {xs : List V} (h : H a = some (.lst xs)) : SqL K H a xs := .inl (.inl h)
theorem st_at {K : PySem.W.Frag} {H : Hp} {a : Addr} {xs : List V} (h : H a = some (.tup xs)) : SqT K H a xs := .inl (.inl h)
theorem sq_up {K : PySem.W.Frag} {H : Hp} {a : Addr} {xs : List V} : SqL K (upd H a (.lst xs)) a xs := sq_at upd_same

structure Fg (H H' H'' : Hp) : Prop where
  sub : ∀ a o, H'' a = some o → H' a = some o
  old : ∀ a o, H a = some o → H'' a = H' a
  own : ∀ a x, H a = some (.own x) → H' a = some (.own x)
  ins : ∀ a C dx fs, H'' a = some (.ins C dx fs) → ∃ fs', H a = some (.ins C dx fs')
  frz : ∀ a o u, H'' a = some (.frz o u) → H a = some (.frz o u)
  nod : ∀ a o, H'' a = some o → flat o
theorem ok_keep {P : Program} {w : World} {H H' H'' : Hp} {h h' : Heap} {a : Addr} {u : HO} (f : flat u) (x : ObjOk P w H h a u) (y : ObjOk P w H' h' a u) (k : ∀ b z, H b = some (.own z) → H'' b = some (.own z)) : ObjOk P w H'' h' a u := by
  induction u with
  | ins C dx fs =>
    obtain ⟨d, _⟩ := x
    obtain ⟨_, r⟩ := y
    exact ⟨k _ _ d, r⟩
  | dT kvs => exact f.elim
  | frz ob u ih =>
    obtain ⟨_, x2⟩ := x
    obtain ⟨y1, y2⟩ := y
    exact ⟨y1, ih f x2 y2⟩
  | lst xs => obtain ⟨z, its, m, r, e⟩ := y; exact ⟨z, its, m, r, e⟩
  | tup xs => obtain ⟨z, its, r, ob, e, c⟩ := y; exact ⟨z, its, r, ob, e, c⟩
  | dK kvs => obtain ⟨z, w1, vs, r, ob, es, ep, e, c⟩ := y; exact ⟨z, w1, vs, r, ob, es, ep, e, c⟩
  | set S m => obtain ⟨ob, es, ep, t, e, c⟩ := y; exact ⟨ob, es, ep, t, e, c⟩
  | own z => obtain ⟨ob, e⟩ := y; exact ⟨ob, e⟩
  | xd fs => obtain ⟨mA, ⟨od, es, ep, e, c⟩, r⟩ := y; exact ⟨mA, ⟨od, es, ep, e, c⟩, r⟩
  | met g z => have e : h'.get? a = some (PySem.W.methodObj (.ref g) (.ref z)) := y; show h'.get? a = some (PySem.W.methodObj (.ref g) (.ref z)); exact e
  | rng lo hi => obtain ⟨t, u, v, e⟩ := y; exact ⟨t, u, v, e⟩
  | tbl ps => have e : h'.get? a = some { cls := .none, data := .fields ps } := y; show h'.get? a = some { cls := .none, data := .fields ps }; exact e
  | ext p => obtain ⟨q, ⟨o, e⟩, st⟩ := y; exact ⟨q, ⟨o, e⟩, st⟩
theorem ok_plain {P : Program} {w : World} {H' H'' : Hp} {h' : Heap} {a : Addr} {u : HO} (f : flat u) (n1 : ∀ C dx fs, u ≠ .ins C dx fs) (n2 : ∀ ob v, u ≠ .frz ob v) (y : ObjOk P w H' h' a u) : ObjOk P w H'' h' a u := by
  cases u with
  | ins C dx fs => exact absurd rfl (n1 C dx fs)
  | dT kvs => exact f.elim
  | frz ob u => exact absurd rfl (n2 ob u)
  | lst xs => obtain ⟨z, its, m, r, e⟩ := y; exact ⟨z, its, m, r, e⟩
  | tup xs => obtain ⟨z, its, r, ob, e, c⟩ := y; exact ⟨z, its, r, ob, e, c⟩
  | dK kvs => obtain ⟨z, w1, vs, r, ob, es, ep, e, c⟩ := y; exact ⟨z, w1, vs, r, ob, es, ep, e, c⟩
  | set S m => obtain ⟨ob, es, ep, t, e, c⟩ := y; exact ⟨ob, es, ep, t, e, c⟩
  | own z => obtain ⟨ob, e⟩ := y; exact ⟨ob, e⟩
  | xd fs => obtain ⟨mA, ⟨od, es, ep, e, c⟩, r⟩ := y; exact ⟨mA, ⟨od, es, ep, e, c⟩, r⟩
  | met g z => have e : h'.get? a = some (PySem.W.methodObj (.ref g) (.ref z)) := y; show h'.get? a = some (PySem.W.methodObj (.ref g) (.ref z)); exact e
  | rng lo hi => obtain ⟨t, u, v, e⟩ := y; exact ⟨t, u, v, e⟩
  | tbl ps => have e : h'.get? a = some { cls := .none, data := .fields ps } := y; show h'.get? a = some { cls := .none, data := .fields ps }; exact e
  | ext p => obtain ⟨q, ⟨o, e⟩, st⟩ := y; exact ⟨q, ⟨o, e⟩, st⟩
theorem fg_ok {P : Program} {w : World} {H H' H'' : Hp} {h h' : Heap} (x : HOk P w H h) (y : HOk P w H' h') (f : Fg H H' H'') : HOk P w H'' h' := fun a o e => by
  have ko : ∀ b z, H b = some (.own z) → H'' b = some (.own z) := fun b z q => (f.old b _ q).trans (f.own b z q)
  have y1 := y a o (f.sub a o e)
  have fl := f.nod a o e
  by_cases hi : ∃ C dx fs, o = .ins C dx fs
  · obtain ⟨C, dx, fs, rfl⟩ := hi
    obtain ⟨fs', q⟩ := f.ins a C dx fs e
    obtain ⟨d, _⟩ := x a _ q
    obtain ⟨_, r⟩ := y1
    exact ⟨ko _ _ d, r⟩
  · by_cases hf : ∃ ob u, o = .frz ob u
    · obtain ⟨ob, u, rfl⟩ := hf
      exact ok_keep fl (x a _ (f.frz a ob u e)) y1 ko
    · exact ok_plain fl (fun C dx fs z => hi ⟨C, dx, fs, z⟩) (fun ob u z => hf ⟨ob, u, z⟩) y1
theorem fg_none {H H' H'' : Hp} (f : Fg H H' H'') {a : Addr} (h : H' a = none) : H'' a = none := by
  cases q : H'' a with
  | none => rfl
  | some o => rw [f.sub a o q] at h; cases h
theorem inv_fg {X : Cx} {pins pins' : List (Addr × Obj)} {σ σ' : L2.St} {H H' H'' : Hp} {s s' : Shared} (I : Inv X pins σ H s) (J : Inv X pins' σ' H' s') (f : Fg H H' H'') : Inv X pins' σ' H'' s' where
  ok := J.ok
  os := J.os
  bare := J.bare
  base := {
    keep := J.base.keep
    slot := J.base.slot
    free := fun b o q n hx => fg_none f (J.base.free b o q n hx)
    there := J.base.there
    tups := fun b xs q => (f.old b _ (I.base.tups b xs q)).trans (J.base.tups b xs q)
    frzs := fun b o u q => (f.old b _ (I.base.frzs b o u q)).trans (J.base.frzs b o u q)
    tbls := fun b ps q => by
      obtain ⟨m1, e1⟩ := I.base.tbls b ps q
      obtain ⟨m2, e2⟩ := J.base.tbls b ps q
      exact ⟨m2, (f.old b _ e1).trans e2⟩ }
  loc := J.loc
  cell := J.cell
  free := fg_none f J.free
  freeC := fun x c e => fg_none f (J.freeC x c e)
  pin := fun p hp => by
    obtain ⟨a, b, c, d, e⟩ := J.pin p hp
    exact ⟨a, fg_none f b, c, d, e⟩
  hok := fg_ok I.hok J.hok f
  len := J.len

theorem fg_same {H H' : Hp} [n : Nod H] (e : Ex H H') : Fg H H' H :=
  ⟨e, fun a o h => h.trans (e a o h).symm, fun a x h => e a _ h, fun a C dx fs h => ⟨fs, h⟩, fun a o u h => h, n.nod⟩
def fresh : HO → Prop
  | .lst _ => True
  | .tup _ => True
  | .dK _ => True
  | _ => False
theorem fresh_flat {o : HO} (h : fresh o) : flat o := by
  cases o with
  | dT kvs => exact (show False from h).elim
  | frz ob u => exact (show False from h).elim
  | lst xs => trivial
  | tup xs => trivial
  | dK kvs => trivial
  | set S n => trivial
  | own z => trivial
  | xd fs => trivial
  | met f z => trivial
  | rng lo hi => trivial
  | tbl ps => trivial
  | ext p => trivial
  | ins C dx fs => trivial
/-- what is kept: all of H but at S, and the new or changed ones L -/
theorem fg_gen {H H' H'' : Hp} [n : Nod H] (S : Addr → Prop) (k : ∀ a o, H a = some o → ¬ S a → H' a = some o ∧ H'' a = some o) (s : ∀ a, S a → ∃ o, fresh o ∧ H' a = some o ∧ H'' a = some o ∧ ∀ u, H a = some u → fresh u) (c : ∀ a, H a = none → ¬ S a → H'' a = none) : Fg H H' H'' where
  sub := fun a o e => by
    by_cases h : S a
    · obtain ⟨u, _, h1, h2, _⟩ := s a h
      rw [h2] at e; rw [h1]; exact e
    · cases q : H a with
      | none => rw [c a q h] at e; cases e
      | some u =>
        obtain ⟨h1, h2⟩ := k a u q h
        rw [h2] at e; rw [h1]; exact e
  old := fun a o e => by
    by_cases h : S a
    · obtain ⟨u, _, h1, h2, _⟩ := s a h
      rw [h1, h2]
    · obtain ⟨h1, h2⟩ := k a o e h
      rw [h1, h2]
  own := fun a x e => by
    by_cases h : S a
    · obtain ⟨u, _, h1, h2, h3⟩ := s a h
      exact (h3 _ e).elim
    · exact (k a _ e h).1
  ins := fun a C dx fs e => by
    by_cases h : S a
    · obtain ⟨u, f, h1, h2, h3⟩ := s a h
      rw [h2] at e; cases e; exact f.elim
    · cases q : H a with
      | none => rw [c a q h] at e; cases e
      | some u =>
        obtain ⟨h1, h2⟩ := k a u q h
        rw [h2] at e; cases e; exact ⟨_, rfl⟩
  frz := fun a o w e => by
    by_cases h : S a
    · obtain ⟨u, f, h1, h2, h3⟩ := s a h
      rw [h2] at e; cases e; exact f.elim
    · cases q : H a with
      | none => rw [c a q h] at e; cases e
      | some u =>
        obtain ⟨h1, h2⟩ := k a u q h
        rw [h2] at e; cases e; rfl
  nod := fun a o e => by
    by_cases h : S a
    · obtain ⟨u, f, h1, h2, h3⟩ := s a h
      rw [h2] at e; cases e; exact fresh_flat f
    · cases q : H a with
      | none => rw [c a q h] at e; cases e
      | some u =>
        obtain ⟨h1, h2⟩ := k a u q h
        rw [h2] at e; cases e; exact n.nod a _ q
/-- one new or changed thing -/
theorem fg_one {H H' : Hp} {p : Addr} {o : HO} [n : Nod H] (f : fresh o) (hp : ∀ u, H p = some u → fresh u) (e : ∀ a u, a ≠ p → H a = some u → H' a = some u) (h : H' p = some o) : Fg H H' (upd H p o) :=
  fg_gen (fun a => a = p) (fun a u q ne => ⟨e a u ne q, by rw [upd_ne ne]; exact q⟩) (fun a q => by subst q; exact ⟨o, f, h, upd_same, hp⟩) (fun a q ne => by rw [upd_ne ne]; exact q)
theorem fg_new {H H' : Hp} {p : Addr} {o : HO} [n : Nod H] (f : fresh o) (hp : H p = none) (e : Ex H H') (h : H' p = some o) : Fg H H' (upd H p o) :=
  fg_one f (fun u q => by rw [hp] at q; cases q) (fun a u _ q => e a u q) h
theorem fg_mut {H H' : Hp} {p : Addr} {xs : List V} {o : HO} [n : Nod H] (f : fresh o) (hp : H p = some (.lst xs)) (e : ∀ a u, a ≠ p → H a = some u → H' a = some u) (h : H' p = some o) : Fg H H' (upd H p o) :=
  fg_one f (fun u q => by rw [hp] at q; cases q; trivial) e h
theorem fg_mut_new {H H' : Hp} {l p : Addr} {xs : List V} {o u : HO} [n : Nod H] (f : fresh o) (g : fresh u) (hl : H l = some (.lst xs)) (hp : H p = none) (e : ∀ a u, a ≠ l → H a = some u → H' a = some u) (h : H' l = some o) (h2 : H' p = some u) : Fg H H' (upd (upd H l o) p u) := by
  have ne : l ≠ p := ne_of_none hl hp
  refine fg_gen (fun a => a = l ∨ a = p) (fun a w q z => ?_) (fun a z => ?_) (fun a q z => ?_)
  · have z1 : a ≠ l := fun y => z (.inl y)
    have z2 : a ≠ p := fun y => z (.inr y)
    exact ⟨e a w z1 q, by rw [upd_ne z2, upd_ne z1]; exact q⟩
  · rcases z with rfl | rfl
    · exact ⟨o, f, h, by rw [upd_ne ne, upd_same], fun w q => by rw [hl] at q; cases q; trivial⟩
    · exact ⟨u, g, h2, upd_same, fun w q => by rw [hp] at q; cases q⟩
  · have z1 : a ≠ l := fun y => z (.inl y)
    have z2 : a ≠ p := fun y => z (.inr y)
    rw [upd_ne z2, upd_ne z1]; exact q

section
variable {X : Cx} {e : Expr} {es : List Expr} {st : Stmt} {sts : List Stmt}
def tFg (t : TE) : TE := fun σ H Q => t σ H fun v H' => ∃ H'', Fg H H' H'' ∧ Q v H''
def bFg (t : TT) : TT := fun σ H Q => t σ H fun v H' => ∃ H'', Fg H H' H'' ∧ Q v H''
def sFg (t : TS) : TS := fun D σ H => t { nx := fun σ' H' => ∃ H'', Fg H H' H'' ∧ D.nx σ' H'', rt := fun v H' => ∃ H'', Fg H H' H'' ∧ D.rt v H'', bk := fun σ' H' => ∃ H'', Fg H H' H'' ∧ D.bk σ' H'', ct := fun σ' H' => ∃ H'', Fg H H' H'' ∧ D.ct σ' H'' } σ H
theorem pe_fg {t : TE} (h : PE X e t) : PE X e (tFg t) := ⟨fun pins s σ H Q I q => by
  refine wpAny_mono (h.run pins s σ H _ I q) (fun u s' z => ?_) fun _ _ z => z
  obtain ⟨v, H', J, r, H'', f, qq⟩ := z
  exact ⟨v, H'', inv_fg I J f, r, qq⟩⟩
theorem pt_fg {t : TT} (h : PT X e t) : PT X e (bFg t) := ⟨fun pins s σ H Q I q => by
  refine wpAny_mono (h.run pins s σ H _ I q) (fun u s' z => ?_) fun _ _ z => z
  obtain ⟨H', J, H'', f, qq⟩ := z
  exact ⟨H'', inv_fg I J f, qq⟩⟩
theorem sp_fg {pins : List (Addr × Obj)} {σ : L2.St} {H : Hp} {s s' : Shared} {D : Ends} {f : Flow} (I : Inv X pins σ H s)
    (z : SP X pins { nx := fun σ' H' => ∃ H'', Fg H H' H'' ∧ D.nx σ' H'', rt := fun v H' => ∃ H'', Fg H H' H'' ∧ D.rt v H'', bk := fun σ' H' => ∃ H'', Fg H H' H'' ∧ D.bk σ' H'', ct := fun σ' H' => ∃ H'', Fg H H' H'' ∧ D.ct σ' H'' } f s') : SP X pins D f s' := by
  cases f with
  | next => obtain ⟨σ', H', J, H'', g, q⟩ := z; exact ⟨σ', H'', inv_fg I J g, q⟩
  | ret v => obtain ⟨x, σ', H', J, r, H'', g, q⟩ := z; exact ⟨x, σ', H'', inv_fg I J g, r, q⟩
  | brk => obtain ⟨σ', H', J, H'', g, q⟩ := z; exact ⟨σ', H'', inv_fg I J g, q⟩
  | cont => obtain ⟨σ', H', J, H'', g, q⟩ := z; exact ⟨σ', H'', inv_fg I J g, q⟩
theorem ps_fg {t : TS} (h : PS X st t) : PS X st (sFg t) := ⟨fun pins s σ H D I q => wpAny_mono (h.run pins s σ H _ I q) (fun _ _ z => sp_fg I z) fun _ _ z => z⟩
theorem pss_fg {t : TS} (h : PSs X sts t) : PSs X sts (sFg t) := ⟨fun pins s σ H D I q => wpAny_mono (h.run pins s σ H _ I q) (fun _ _ z => sp_fg I z) fun _ _ z => z⟩
end
end Px
set_option Elab.async false
set_option linter.all false
set_option maxRecDepth 100000
set_option maxHeartbeats 4000000
namespace Px
open PySem L2

/-! ### the operators by short names -/
abbrev oAdd : R2 := rI0 fun i j => .int (i + j)
abbrev oSub : R2 := rI0 fun i j => .int (i - j)
abbrev oMul : R2 := rI CMulW fun i j => .int (i * j)
abbrev oDiv : R2 := rI CDivW fun i j => .int (i / j)
abbrev oMod : R2 := rI (fun _ j => 0 < j) fun i j => .int (i % j)
abbrev oPow : R2 := rI CPow fun i j => .int (i ^ j.toNat)
abbrev oLt : R2 := rI0 fun i j => .bl (decide (i < j))
abbrev oLe : R2 := rI0 fun i j => .bl (decide (i ≤ j))
abbrev oGt : R2 := rI0 fun i j => .bl (decide (j < i))
abbrev oGe : R2 := rI0 fun i j => .bl (decide (j ≤ i))
abbrev oIsN : R2 := fun x y H Q => y = .non ∧ Q (.bl (decide (x = .non))) H
abbrev oNotN : R2 := fun x y H Q => y = .non ∧ Q (.bl (!decide (x = .non))) H
abbrev oCatS : R2 := fun x y H Q => ∃ i j, x = .str i ∧ y = .str j ∧ i.length + j.length ≤ sizeLine ∧ Q (.str (i ++ j)) H
abbrev uNeg : V → Hp → VK → Prop := rU fun i => .int (-i)
abbrev cLen (K : PySem.W.Frag) : List V → Hp → VK → Prop := fun xs H Q => ∃ p ys, xs = [.ref p] ∧ (SqL K H p ys ∨ SqT K H p ys) ∧ Q (.int ys.length) H
abbrev cLenS : List V → Hp → VK → Prop := fun xs H Q => ∃ z, xs = [.str z] ∧ z.length ≤ sizeLine ∧ Q (.int z.length) H
abbrev cInt : List V → Hp → VK → Prop := fun xs H Q => (∃ i, xs = [.int i] ∧ Q (.int i) H) ∨ ∃ k, xs = [.bl k] ∧ Q (.int (if k then 1 else 0)) H
abbrev cIntS : List V → Hp → VK → Prop := fun xs H Q => ∃ a n, xs = [.str a] ∧ PySem.intText? a = some n ∧ a.length ≤ 640 ∧ Q (.int n) H
abbrev cStr : List V → Hp → VK → Prop := fun xs H Q => ∃ i, xs = [.int i] ∧ i.natAbs.log2 < 1920 ∧ Q (.str (toString i)) H
abbrev cAbs : List V → Hp → VK → Prop := fun xs H Q => ∃ i, xs = [.int i] ∧ Q (.int (if i < 0 then -i else i)) H
abbrev cMax : List V → Hp → VK → Prop := fun xs H Q => ∃ i j, xs = [.int i, .int j] ∧ Q (.int (if j > i then j else i)) H
abbrev cMin : List V → Hp → VK → Prop := fun xs H Q => ∃ i j, xs = [.int i, .int j] ∧ Q (.int (if j < i then j else i)) H
abbrev cList (K : PySem.W.Frag) : List V → Hp → VK → Prop := fun xs H Q => ∃ p ys, xs = [.ref p] ∧ (SqL K H p ys ∨ SqT K H p ys) ∧ ∀ l, H l = none → Q (.ref l) (upd H l (.lst ys))
/-- x *= e, x //= e -/
def ipC (C : Int → Int → Prop) (f : Int → Int → Int) : TIp := fun x y H Q => ∃ i j, x = .int i ∧ y = .int j ∧ C i j ∧ Q (.int (f i j)) H
section
variable {X : Cx}
theorem ip_mul : PIp X .Mult (ipC CMulW fun i j => i * j) := by
  intro pins s σ H x y vx vy Q I rx ry h
  obtain ⟨i, j, rfl, rfl, c, q⟩ := h
  obtain ⟨t, rfl⟩ := rx
  obtain ⟨t', rfl⟩ := ry
  exact PyProof.Rows.imul_int ⟨.int _, H, I.tok _, ⟨_, rfl⟩, q⟩ c.ok
theorem ip_div : PIp X .FloorDiv (ipC CDivW fun i j => i / j) := by
  intro pins s σ H x y vx vy Q I rx ry h
  obtain ⟨i, j, rfl, rfl, c, q⟩ := h
  exact iop_fdivW pins s σ H _ _ vx vy Q I rx ry ⟨i, j, rfl, rfl, c, q⟩
end

/-! ### what evaluates to what, the heap as it was -/
def Ev (te : TE) (σ : L2.St) (H : Hp) (v : V) : Prop := ∀ Q : VK, Q v H → te σ H Q
def EvL (te : TE) (σ : L2.St) (H : Hp) (xs : List V) : Prop := ∀ Q : VK, (∀ p, H p = none → Q (.ref p) (upd H p (.lst xs))) → te σ H Q
def EvU (te : TE) (σ : L2.St) (H : Hp) (xs : List V) : Prop := ∀ Q : VK, (∀ p, H p = none → Q (.ref p) (upd H p (.tup xs))) → te σ H Q
def EvT (tt : TT) (σ : L2.St) (H : Hp) (b : Bool) : Prop := ∀ Q : Bool → Hp → Prop, Q b H → tt σ H Q
def EvA (ta : TA) (σ : L2.St) (H : Hp) (vs : List V) : Prop := ∀ Q : List V → Hp → Prop, Q vs H → ta σ H Q
def EvO (to : TO) (σ : L2.St) (H : Hp) (o : Option Int) : Prop := ∀ Q : Option Int → Hp → Prop, Q o H → to σ H Q
def RV (r : R2) (x y : V) (H : Hp) (z : V) : Prop := ∀ Q : VK, Q z H → r x y H Q
def RC (r : List V → Hp → VK → Prop) (vs : List V) (H : Hp) (z : V) : Prop := ∀ Q : VK, Q z H → r vs H Q
section
variable {K : PySem.W.Frag} {σ : L2.St} {H : Hp} {ta tb tc te : TE} {t u : TT} {x y z v : V} {r : R2} {i j : Int}
theorem ev_v (n : Nat) (h : σ[n]? = some (some v) := by rfl) : Ev (tVar n) σ H v := fun _ q => ⟨v, h, q⟩
theorem w_v (n : Nat) {Q : VK} (q : Q v H) (h : σ[n]? = some (some v) := by rfl) : tVar n σ H Q := ⟨v, h, q⟩
theorem ev_c : Ev (tC v) σ H v := fun _ q => q
theorem ev_op (ha : Ev ta σ H x) (hb : Ev tb σ H y) (hr : RV r x y H z) : Ev (tOp r ta tb) σ H z := fun Q q => ha _ (hb _ (hr Q q))
theorem ev_eq (h : Ev te σ H x) (e : x = y) : Ev te σ H y := e ▸ h
theorem rv_0 {g : Int → Int → V} : RV (rI0 g) (.int i) (.int j) H (g i j) := fun _ q => ⟨i, j, rfl, rfl, q⟩
theorem rv_1 {C : Int → Int → Prop} {g : Int → Int → V} (c : C i j) : RV (rI C g) (.int i) (.int j) H (g i j) := fun _ q => ⟨i, j, rfl, rfl, c, q⟩
theorem ev_add (ha : Ev ta σ H (.int i)) (hb : Ev tb σ H (.int j)) : Ev (tOp oAdd ta tb) σ H (.int (i + j)) := ev_op ha hb rv_0
theorem ev_sub (ha : Ev ta σ H (.int i)) (hb : Ev tb σ H (.int j)) : Ev (tOp oSub ta tb) σ H (.int (i - j)) := ev_op ha hb rv_0
theorem ev_mul (ha : Ev ta σ H (.int i)) (hb : Ev tb σ H (.int j)) (c : CMulW i j) : Ev (tOp oMul ta tb) σ H (.int (i * j)) := ev_op ha hb (rv_1 c)
theorem ev_div (ha : Ev ta σ H (.int i)) (hb : Ev tb σ H (.int j)) (c : CDivW i j) : Ev (tOp oDiv ta tb) σ H (.int (i / j)) := ev_op ha hb (rv_1 c)
theorem ev_mod (ha : Ev ta σ H (.int i)) (hb : Ev tb σ H (.int j)) (c : 0 < j) : Ev (tOp oMod ta tb) σ H (.int (i % j)) := ev_op ha hb (rv_1 c)
theorem ev_pow (ha : Ev ta σ H (.int i)) (hb : Ev tb σ H (.int j)) (c : CPow i j) : Ev (tOp oPow ta tb) σ H (.int (i ^ j.toNat)) := ev_op ha hb (rv_1 c)
theorem ev_lt (ha : Ev ta σ H (.int i)) (hb : Ev tb σ H (.int j)) : Ev (tOp oLt ta tb) σ H (.bl (decide (i < j))) := ev_op ha hb rv_0
theorem ev_le (ha : Ev ta σ H (.int i)) (hb : Ev tb σ H (.int j)) : Ev (tOp oLe ta tb) σ H (.bl (decide (i ≤ j))) := ev_op ha hb rv_0
theorem ev_gt (ha : Ev ta σ H (.int i)) (hb : Ev tb σ H (.int j)) : Ev (tOp oGt ta tb) σ H (.bl (decide (j < i))) := ev_op ha hb rv_0
theorem ev_ge (ha : Ev ta σ H (.int i)) (hb : Ev tb σ H (.int j)) : Ev (tOp oGe ta tb) σ H (.bl (decide (j ≤ i))) := ev_op ha hb rv_0
theorem ev_eqs (ha : Ev ta σ H x) (hb : Ev tb σ H y) (s : scal x y = true) : Ev (tOp rEq ta tb) σ H (.bl (decide (x = y))) := ev_op ha hb fun _ q => ⟨s, q⟩
theorem ev_nes (ha : Ev ta σ H x) (hb : Ev tb σ H y) (s : scal x y = true) : Ev (tOp rNe ta tb) σ H (.bl (!decide (x = y))) := ev_op ha hb fun _ q => ⟨s, q⟩
theorem dec_int : decide (V.int i = V.int j) = decide (i = j) := by
  by_cases h : i = j
  · subst h; simp
  · rw [decide_eq_false h, decide_eq_false (fun e => h (V.int.inj e))]
theorem ev_eqi (ha : Ev ta σ H (.int i)) (hb : Ev tb σ H (.int j)) : Ev (tOp rEq ta tb) σ H (.bl (decide (i = j))) := fun Q q => ev_eqs ha hb rfl Q (by rw [dec_int]; exact q)
theorem ev_nei (ha : Ev ta σ H (.int i)) (hb : Ev tb σ H (.int j)) : Ev (tOp rNe ta tb) σ H (.bl (!decide (i = j))) := fun Q q => ev_nes ha hb rfl Q (by rw [dec_int]; exact q)
theorem ev_isN (ha : Ev ta σ H x) : Ev (tOp oIsN ta (tC .non)) σ H (.bl (decide (x = .non))) := ev_op ha ev_c fun _ q => ⟨rfl, q⟩
theorem ev_notN (ha : Ev ta σ H x) : Ev (tOp oNotN ta (tC .non)) σ H (.bl (!decide (x = .non))) := ev_op ha ev_c fun _ q => ⟨rfl, q⟩
theorem ev_isB {a b : Bool} (ha : Ev ta σ H (.bl a)) (hb : Ev tb σ H (.bl b)) : Ev (tOp rIsB ta tb) σ H (.bl (decide (a = b))) := ev_op ha hb fun _ q => ⟨a, b, rfl, rfl, q⟩
theorem ev_notB {a b : Bool} (ha : Ev ta σ H (.bl a)) (hb : Ev tb σ H (.bl b)) : Ev (tOp rNotB ta tb) σ H (.bl (!decide (a = b))) := ev_op ha hb fun _ q => ⟨a, b, rfl, rfl, q⟩
theorem ev_neg (ha : Ev ta σ H (.int i)) : Ev (tUn uNeg ta) σ H (.int (-i)) := fun _ q => ha _ ⟨i, rfl, q⟩
theorem ev_chain {a b : Bool} {r r' : R2} (ha : Ev ta σ H x) (hb : Ev tb σ H y) (hr : RV r x y H (.bl a)) (hc : a = true → Ev tc σ H z) (hr' : a = true → RV r' y z H (.bl b)) : Ev (tChain r r' ta tb tc) σ H (.bl (a && b)) := fun Q q =>
  ha _ (hb _ (hr _ ⟨a, rfl, by
    cases a with
    | true => exact iteT (hc rfl _ (hr' rfl Q q))
    | false => exact iteF q⟩))
theorem ev_ixL {p : Addr} {xs : List V} (ha : Ev ta σ H (.ref p)) (hb : Ev tb σ H (.int i)) (h : SqL K H p xs) (e : atI xs i = some v) : Ev (tOp (rIxL K) ta tb) σ H v := ev_op ha hb fun _ q => ⟨p, xs, i, v, rfl, rfl, h, e, q⟩
theorem ev_ixT {p : Addr} {xs : List V} (ha : Ev ta σ H (.ref p)) (hb : Ev tb σ H (.int i)) (h : SqT K H p xs) (e : atI xs i = some v) : Ev (tOp (rIxT K) ta tb) σ H v := ev_op ha hb fun _ q => ⟨p, xs, i, v, rfl, rfl, h, e, q⟩
theorem ev_cb {r : List V → Hp → VK → Prop} {ta : TA} {vs : List V} (h : EvA ta σ H vs) (hr : RC r vs H z) : Ev (tCB r ta) σ H z := fun Q q => h _ (hr Q q)
theorem ea_nil : EvA tNil σ H [] := fun _ q => q
theorem ea_cons {tr : TA} {vs : List V} (h : Ev ta σ H x) (hr : EvA tr σ H vs) : EvA (tCons ta tr) σ H (x :: vs) := fun _ q => h _ (hr _ q)
theorem ea_1 (h : Ev ta σ H x) : EvA (tCons ta tNil) σ H [x] := ea_cons h ea_nil
theorem ea_2 (h : Ev ta σ H x) (g : Ev tb σ H y) : EvA (tCons ta (tCons tb tNil)) σ H [x, y] := ea_cons h (ea_1 g)
theorem ea_3 (h : Ev ta σ H x) (g : Ev tb σ H y) (f : Ev tc σ H z) : EvA (tCons ta (tCons tb (tCons tc tNil))) σ H [x, y, z] := ea_cons h (ea_2 g f)
theorem ev_len {p : Addr} {xs : List V} (ha : Ev ta σ H (.ref p)) (h : SqL K H p xs) : Ev (tCB (cLen K) (tCons ta tNil)) σ H (.int (xs.length : Int)) := ev_cb (ea_1 ha) fun _ q => ⟨p, xs, rfl, .inl h, q⟩
theorem ev_lenT {p : Addr} {xs : List V} (ha : Ev ta σ H (.ref p)) (h : SqT K H p xs) : Ev (tCB (cLen K) (tCons ta tNil)) σ H (.int (xs.length : Int)) := ev_cb (ea_1 ha) fun _ q => ⟨p, xs, rfl, .inr h, q⟩
theorem ev_lenS {s : Str} (ha : Ev ta σ H (.str s)) (h : s.length ≤ sizeLine) : Ev (tCB cLenS (tCons ta tNil)) σ H (.int (s.length : Int)) := ev_cb (ea_1 ha) fun _ q => ⟨s, rfl, h, q⟩
theorem ev_intB {b : Bool} (ha : Ev ta σ H (.bl b)) : Ev (tCB cInt (tCons ta tNil)) σ H (.int (if b then 1 else 0)) := ev_cb (ea_1 ha) fun _ q => .inr ⟨b, rfl, q⟩
theorem ev_intI (ha : Ev ta σ H (.int i)) : Ev (tCB cInt (tCons ta tNil)) σ H (.int i) := ev_cb (ea_1 ha) fun _ q => .inl ⟨i, rfl, q⟩
theorem ev_abs (ha : Ev ta σ H (.int i)) : Ev (tCB cAbs (tCons ta tNil)) σ H (.int (if i < 0 then -i else i)) := ev_cb (ea_1 ha) fun _ q => ⟨i, rfl, q⟩
theorem ev_max (ha : Ev ta σ H (.int i)) (hb : Ev tb σ H (.int j)) : Ev (tCB cMax (tCons ta (tCons tb tNil))) σ H (.int (if j > i then j else i)) := ev_cb (ea_2 ha hb) fun _ q => ⟨i, j, rfl, q⟩
theorem ev_min (ha : Ev ta σ H (.int i)) (hb : Ev tb σ H (.int j)) : Ev (tCB cMin (tCons ta (tCons tb tNil))) σ H (.int (if j < i then j else i)) := ev_cb (ea_2 ha hb) fun _ q => ⟨i, j, rfl, q⟩
theorem ev_sum {p : Addr} {ns : List Int} (ha : Ev ta σ H (.ref p)) (h : SqL K H p (ns.map V.int)) : Ev (tCB (rSum K) (tCons ta tNil)) σ H (.int ns.sum) := ev_cb (ea_1 ha) fun _ q => ⟨p, ns, rfl, h, q⟩
theorem ev_isi {t0 u0 : Value} {b : Bool} {c : V} (ha : Ev ta σ H x) (hb : Ev tb σ H c) (k : ClsV c u0) (ty : TyX K H x t0) (e : PySem.W.kitOne K t0 u0 = some b) : Ev (tCB (rIsi K) (tCons ta (tCons tb tNil))) σ H (.bl b) := ev_cb (ea_2 ha hb) fun _ q => ⟨x, c, t0, u0, b, rfl, k, ty, e, q⟩
theorem ev_if {b : Bool} (h : EvT t σ H b) (h1 : b = true → Ev ta σ H v) (h2 : b = false → Ev tb σ H v) : Ev (tIf t ta tb) σ H v := fun Q q => h _ (by
  cases b with
  | true => exact iteT (h1 rfl Q q)
  | false => exact iteF (h2 rfl Q q))
theorem ev_ite {b : Bool} {v w : V} (h : EvT t σ H b) (h1 : Ev ta σ H v) (h2 : Ev tb σ H w) : Ev (tIf t ta tb) σ H (if b then v else w) := fun Q q => h _ (by
  cases b with
  | true => exact iteT (h1 Q q)
  | false => exact iteF (h2 Q q))
theorem ev_and {a b : Bool} (h1 : Ev ta σ H (.bl a)) (h2 : a = true → Ev tb σ H (.bl b)) : Ev (tAndV ta tb) σ H (.bl (a && b)) := fun Q q => h1 _ ⟨a, rfl, by
  cases a with
  | true => exact iteT (h2 rfl Q q)
  | false => exact iteF q⟩
theorem ev_or {a b : Bool} (h1 : Ev ta σ H (.bl a)) (h2 : a = false → Ev tb σ H (.bl b)) : Ev (tOrV ta tb) σ H (.bl (a || b)) := fun Q q => h1 _ ⟨a, rfl, by
  cases a with
  | true => exact iteT q
  | false => exact iteF (h2 rfl Q q)⟩
theorem ev_not {a : Bool} (h1 : Ev ta σ H (.bl a)) : Ev (tNotV ta) σ H (.bl (!a)) := fun _ q => h1 _ ⟨a, rfl, q⟩
theorem et_t {b : Bool} (h : Ev te σ H (.bl b)) : EvT (tTest te) σ H b := fun _ q => h _ ⟨b, rfl, q⟩
theorem et_b {b : Bool} (h : Ev te σ H (.bl b)) : EvT (tB te) σ H b := fun _ q => h _ ⟨b, rfl, q⟩
theorem et_and {a b : Bool} (h1 : EvT t σ H a) (h2 : a = true → EvT u σ H b) : EvT (tAnd t u) σ H (a && b) := fun Q q => h1 _ (by
  cases a with
  | true => exact iteT (h2 rfl Q q)
  | false => exact iteF q)
theorem et_or {a b : Bool} (h1 : EvT t σ H a) (h2 : a = false → EvT u σ H b) : EvT (tOr t u) σ H (a || b) := fun Q q => h1 _ (by
  cases a with
  | true => exact iteT q
  | false => exact iteF (h2 rfl Q q))
theorem et_not {a : Bool} (h1 : EvT t σ H a) : EvT (tNot t) σ H (!a) := fun _ q => h1 _ q
theorem et_eq {a b : Bool} (h : EvT t σ H a) (e : a = b) : EvT t σ H b := e ▸ h
theorem et_yes : EvT tYes σ H true := fun _ q => q
theorem eo_no : EvO tNoPart σ H none := fun _ q => q
theorem eo_is (h : Ev te σ H (.int i)) : EvO (tPart te) σ H (some i) := fun _ q => h _ ⟨i, rfl, q⟩
theorem el_nil : EvL (tLst tNil) σ H [] := fun _ q => ⟨Nat.zero_le _, q⟩
theorem el_lst {ta : TA} {vs : List V} (h : EvA ta σ H vs) (hl : vs.length ≤ 1000) : EvL (tLst ta) σ H vs := fun _ q => h _ ⟨Nat.le_trans hl (by decide), q⟩
theorem eu_tup {ta : TA} {vs : List V} (h : EvA ta σ H vs) (hl : vs.length ≤ 1000) : EvU (tTup ta) σ H vs := fun _ q => h _ ⟨Nat.le_trans hl (by decide), q⟩
theorem el_sl {tl th : TO} {a : Addr} {xs : List V} {lo hi : Option Int} (h : Ev te σ H (.ref a)) (h1 : EvO tl σ H lo) (h2 : EvO th σ H hi) (hs : SqL K H a xs) : EvL (tSl (rSlL K) te tl th) σ H (cutV xs lo hi) := fun _ q => h _ (h1 _ (h2 _ ⟨a, xs, rfl, hs, q⟩))
theorem el_list {a : Addr} {xs : List V} (h : Ev te σ H (.ref a)) (hs : SqL K H a xs) : EvL (tCB (cList K) (tCons te tNil)) σ H xs := fun _ q => h _ ⟨a, xs, rfl, .inl hs, q⟩
theorem el_rev {a : Addr} {xs : List V} (h : Ev te σ H (.ref a)) (hs : SqL K H a xs) : EvL (tRevL K te) σ H xs.reverse := fun _ q => h _ ⟨a, xs, rfl, hs, q⟩
theorem el_cat {a b : Addr} {xs ys : List V} (h : Ev ta σ H (.ref a)) (g : Ev tb σ H (.ref b)) (ha : H a = some (.lst xs)) (hb : H b = some (.lst ys)) (hl : xs.length + ys.length ≤ sizeLine) : EvL (tOp rCat ta tb) σ H (xs ++ ys) := fun _ q => h _ (g _ ⟨a, b, xs, ys, rfl, rfl, ha, hb, hl, q⟩)

/-! ### forgetting -/
theorem ev_fg [Nod H] (h : ∀ Q : VK, (∀ H', Ex H H' → Q v H') → te σ H Q) : Ev (tFg te) σ H v := fun Q q => h _ fun H' e => ⟨H, fg_same e, q⟩
theorem el_fg [Nod H] {xs : List V} (h : ∀ Q : VK, (∀ p H', H p = none → Ex H H' → H' p = some (.lst xs) → Q (.ref p) H') → te σ H Q) : EvL (tFg te) σ H xs := fun Q q => h _ fun p H' hp e hx => ⟨upd H p (.lst xs), fg_new trivial hp e hx, q p hp⟩
theorem et_fg [Nod H] {b : Bool} (h : ∀ Q : Bool → Hp → Prop, (∀ H', Ex H H' → Q b H') → t σ H Q) : EvT (bFg t) σ H b := fun Q q => h _ fun H' e => ⟨H, fg_same e, q⟩
/-- what is already exact stays so -/
theorem ev_fg0 [Nod H] (h : Ev te σ H v) : Ev (tFg te) σ H v := ev_fg fun Q q => h Q (q H ex_refl)
/-- an item of a list made on the way -/
theorem ev_pick [Nod H] {xs : List V} (h : EvL ta σ H xs) (hb : ∀ p, H p = none → Ev tb σ (upd H p (.lst xs)) (.int i)) (e : atI xs i = some v) : Ev (tFg (tOp (rIxL K) ta tb)) σ H v :=
  ev_fg fun Q q => h _ fun p hp => hb p hp _ ⟨p, xs, i, v, rfl, rfl, sq_up, e, q _ (ex_new hp)⟩
end
end Px
set_option Elab.async false
set_option linter.all false
set_option maxRecDepth 100000
set_option maxHeartbeats 4000000
namespace Px
open PySem L2
section
variable {K : PySem.W.Frag} {σ : L2.St} {H : Hp} {ta tb tc te tl : TE} {t u : TT} {x y z v : V} {D : Ends} {s1 s2 s3 tu : TS} {n m : Nat} {i j : Int}
/-! ### statements -/
theorem s_set (h : Ev te σ H v) (k : D.nx (σ.set n (some v)) H) : tAsg te (gName n) D σ H := h _ k
theorem s_setL {xs : List V} (h : EvL te σ H xs) (k : ∀ p, H p = none → D.nx (σ.set n (some (.ref p))) (upd H p (.lst xs))) : tAsg te (gName n) D σ H := h _ k
theorem q_set (h : Ev te σ H v) (k : s2 D (σ.set n (some v)) H) : tSeq (tAsg te (gName n)) s2 D σ H := h _ k
theorem q_setL {xs : List V} (h : EvL te σ H xs) (k : ∀ p, H p = none → s2 D (σ.set n (some (.ref p))) (upd H p (.lst xs))) : tSeq (tAsg te (gName n)) s2 D σ H := h _ k
theorem q_setW (h : te σ H fun w H1 => s2 D (σ.set n (some w)) H1) : tSeq (tAsg te (gName n)) s2 D σ H := h
theorem s_setW (h : te σ H fun w H1 => D.nx (σ.set n (some w)) H1) : tAsg te (gName n) D σ H := h
theorem s_ret (h : Ev te σ H v) (k : D.rt v H) : tRet te D σ H := h _ k
theorem s_retL {xs : List V} (h : EvL te σ H xs) (k : ∀ p, H p = none → D.rt (.ref p) (upd H p (.lst xs))) : tRet te D σ H := h _ k
theorem s_if {b : Bool} (h : EvT t σ H b) (h1 : b = true → s1 D σ H) (h2 : b = false → s2 D σ H) : tIfS t s1 s2 D σ H := h _ (by
  cases b with
  | true => exact iteT (h1 rfl)
  | false => exact iteF (h2 rfl))
theorem q_if {b : Bool} (h : EvT t σ H b) (h1 : b = true → s1 { D with nx := s3 D } σ H) (h2 : b = false → s2 { D with nx := s3 D } σ H) : tSeq (tIfS t s1 s2) s3 D σ H := s_if (D := { D with nx := s3 D }) h h1 h2
theorem q_when {b : Bool} (h : EvT t σ H b) (h1 : b = true → s1 { D with nx := s3 D } σ H) (h2 : b = false → s3 D σ H) : tSeq (tIfS t s1 tNext) s3 D σ H := s_if (D := { D with nx := s3 D }) h h1 h2
theorem s_when {b : Bool} (h : EvT t σ H b) (h1 : b = true → s1 D σ H) (h2 : b = false → D.nx σ H) : tIfS t s1 tNext D σ H := s_if h h1 h2
theorem s_drop (h : Ev te σ H v) (k : D.nx σ H) : tDrop te D σ H := h _ k
theorem q_seq (h : s1 { D with nx := s2 D } σ H) : tSeq s1 s2 D σ H := h
theorem s_app {l : Addr} {xs : List V} (hl : H l = some (.lst xs)) (hz : xs.length < sizeLine) (ha : Ev ta σ H (.ref l)) (h : Ev te σ H v) (k : D.nx σ (upd H l (.lst (xs ++ [v])))) : tDrop (tBM K "list" rAppend ta (tCons te tNil)) D σ H :=
  ha _ ⟨.inl ⟨rfl, xs, sq_at hl⟩, h _ ⟨l, xs, v, rfl, rfl, hl, hz, k⟩⟩
theorem q_app {l : Addr} {xs : List V} (hl : H l = some (.lst xs)) (hz : xs.length < sizeLine) (ha : Ev ta σ H (.ref l)) (h : Ev te σ H v) (k : s2 D σ (upd H l (.lst (xs ++ [v])))) : tSeq (tDrop (tBM K "list" rAppend ta (tCons te tNil))) s2 D σ H := s_app (D := { D with nx := s2 D }) hl hz ha h k
theorem s_ext {l b : Addr} {xs ys : List V} (hl : H l = some (.lst xs)) (hb : H b = some (.lst ys)) (hz : xs.length + ys.length ≤ sizeLine) (ha : Ev ta σ H (.ref l)) (h : Ev te σ H (.ref b)) (k : D.nx σ (upd H l (.lst (xs ++ ys)))) : tDrop (tBM K "list" rExtend ta (tCons te tNil)) D σ H :=
  ha _ ⟨.inl ⟨rfl, xs, sq_at hl⟩, h _ ⟨l, b, xs, ys, rfl, rfl, hl, hb, hz, k⟩⟩
theorem ixn {k j : Nat} (h : j < k) : ixN k (j : Int) = some j := by
  unfold ixN
  rw [if_pos (by omega), if_pos (by omega)]
  simp
theorem ixn0 {k : Nat} (h : 0 < k) : ixN k 0 = some 0 := ixn (j := 0) h
theorem ixn1 {k : Nat} (h : 1 < k) : ixN k 1 = some 1 := ixn (j := 1) h
theorem s_sub {l : Addr} {xs : List V} {jj : Int} {j : Nat} (hl : H l = some (.lst xs)) (e : ixN xs.length jj = some j) (h : Ev te σ H v) (ho : Ev ta σ H (.ref l)) (hi : Ev tb σ H (.int jj)) (k : D.nx σ (upd H l (.lst (xs.set j v)))) : tAsg te (gSub ta tb rSetL) D σ H :=
  h _ (ho _ (hi _ ⟨l, xs, jj, j, rfl, rfl, hl, e, k⟩))
theorem q_sub {l : Addr} {xs : List V} {jj : Int} {j : Nat} (hl : H l = some (.lst xs)) (e : ixN xs.length jj = some j) (h : Ev te σ H v) (ho : Ev ta σ H (.ref l)) (hi : Ev tb σ H (.int jj)) (k : s2 D σ (upd H l (.lst (xs.set j v)))) : tSeq (tAsg te (gSub ta tb rSetL)) s2 D σ H := s_sub (D := { D with nx := s2 D }) hl e h ho hi k
theorem s_aug {f : Int → Int → Int} {a b : Int} (h : Ev te σ H (.int b)) (k : D.nx (σ.set n (some (.int (f a b)))) H) (hx : σ[n]? = some (some (.int a)) := by rfl) : tAug n te (ipI f) D σ H := ⟨.int a, hx, h _ ⟨a, b, rfl, rfl, k⟩⟩
theorem q_aug {f : Int → Int → Int} {a b : Int} (h : Ev te σ H (.int b)) (k : s2 D (σ.set n (some (.int (f a b)))) H) (hx : σ[n]? = some (some (.int a)) := by rfl) : tSeq (tAug n te (ipI f)) s2 D σ H := s_aug (D := { D with nx := s2 D }) h k hx
theorem s_augC {C : Int → Int → Prop} {f : Int → Int → Int} {a b : Int} (h : Ev te σ H (.int b)) (k : D.nx (σ.set n (some (.int (f a b)))) H) (c : C a b) (hx : σ[n]? = some (some (.int a)) := by rfl) : tAug n te (ipC C f) D σ H := ⟨.int a, hx, h _ ⟨a, b, rfl, rfl, c, k⟩⟩
theorem q_augC {C : Int → Int → Prop} {f : Int → Int → Int} {a b : Int} (h : Ev te σ H (.int b)) (k : s2 D (σ.set n (some (.int (f a b)))) H) (c : C a b) (hx : σ[n]? = some (some (.int a)) := by rfl) : tSeq (tAug n te (ipC C f)) s2 D σ H := s_augC (D := { D with nx := s2 D }) h k c hx
/-! ### loops -/
theorem s_while (W : Nat → L2.St → Hp → Prop) (m0 : Nat) (h0 : W m0 σ H)
    (hs : ∀ m σ' H', W m σ' H' → ∃ b, EvT t σ' H' b ∧ (b = true → tu { D with nx := fun σ2 H2 => ∃ m', m' < m ∧ W m' σ2 H2, ct := fun σ2 H2 => ∃ m', m' < m ∧ W m' σ2 H2, bk := D.nx } σ' H') ∧ (b = false → D.nx σ' H')) : tWhile t tu D σ H :=
  ⟨W, ⟨m0, h0⟩, fun m σ' H' hw => by
    obtain ⟨b, hb, h1, h2⟩ := hs m σ' H' hw
    refine hb _ ?_
    cases b with
    | true => exact iteT ⟨_, fun σ2 H2 q => q, h1 rfl⟩
    | false => exact iteF (h2 rfl)⟩
theorem q_while (W : Nat → L2.St → Hp → Prop) (m0 : Nat) (h0 : W m0 σ H)
    (hs : ∀ m σ' H', W m σ' H' → ∃ b, EvT t σ' H' b ∧ (b = true → tu { D with nx := fun σ2 H2 => ∃ m', m' < m ∧ W m' σ2 H2, ct := fun σ2 H2 => ∃ m', m' < m ∧ W m' σ2 H2, bk := s2 D } σ' H') ∧ (b = false → s2 D σ' H')) : tSeq (tWhile t tu) s2 D σ H :=
  s_while (D := { D with nx := s2 D }) W m0 h0 hs
theorem s_forR1 {ta : TA} {k : Int} (h : EvA ta σ H [.int k]) (hk : -(2 ^ 62) ≤ k ∧ k < 2 ^ 62) (Pv : Nat → L2.St → Hp → Prop) (h0 : Pv 0 σ H)
    (hs : ∀ (i : Nat) σ' H', (i : Int) < k → Pv i σ' H' → tu { D with nx := Pv (i + 1), ct := Pv (i + 1), bk := D.nx } (σ'.set n (some (.int (i : Int)))) H') (hd : ∀ σ' H', Pv k.toNat σ' H' → D.nx σ' H') : tFor (iRng1 ta) (gName n) tu D σ H :=
  h _ ⟨k, rfl, hk.1, hk.2, for_range (lo := 0) (n := k.toNat) Pv h0 (fun i σ' H' hi p => by
    show tu { D with nx := Pv (i + 1), ct := Pv (i + 1), bk := D.nx } (σ'.set n (some (.int ((0 : Int) + (i : Int))))) H'
    rw [Int.zero_add]
    exact hs i σ' H' (by omega) p) hd⟩
theorem q_forR1 {ta : TA} {k : Int} (h : EvA ta σ H [.int k]) (hk : -(2 ^ 62) ≤ k ∧ k < 2 ^ 62) (Pv : Nat → L2.St → Hp → Prop) (h0 : Pv 0 σ H)
    (hs : ∀ (i : Nat) σ' H', (i : Int) < k → Pv i σ' H' → tu { D with nx := Pv (i + 1), ct := Pv (i + 1), bk := s2 D } (σ'.set n (some (.int (i : Int)))) H') (hd : ∀ σ' H', Pv k.toNat σ' H' → s2 D σ' H') : tSeq (tFor (iRng1 ta) (gName n) tu) s2 D σ H :=
  s_forR1 (D := { D with nx := s2 D }) h hk Pv h0 hs hd
theorem s_forR2 {ta : TA} {lo k : Int} (h : EvA ta σ H [.int lo, .int k]) (hk : -(2 ^ 62) ≤ lo ∧ lo < 2 ^ 62 ∧ -(2 ^ 62) ≤ k ∧ k < 2 ^ 62) (Pv : Nat → L2.St → Hp → Prop) (h0 : Pv 0 σ H)
    (hs : ∀ (i : Nat) σ' H', lo + (i : Int) < k → Pv i σ' H' → tu { D with nx := Pv (i + 1), ct := Pv (i + 1), bk := D.nx } (σ'.set n (some (.int (lo + (i : Int))))) H') (hd : ∀ σ' H', Pv (k - lo).toNat σ' H' → D.nx σ' H') : tFor (iRng2 ta) (gName n) tu D σ H :=
  h _ ⟨lo, k, rfl, hk, for_range (lo := lo) (n := (k - lo).toNat) Pv h0 (fun i σ' H' hi p => hs i σ' H' (by omega) p) hd⟩
theorem q_forR2 {ta : TA} {lo k : Int} (h : EvA ta σ H [.int lo, .int k]) (hk : -(2 ^ 62) ≤ lo ∧ lo < 2 ^ 62 ∧ -(2 ^ 62) ≤ k ∧ k < 2 ^ 62) (Pv : Nat → L2.St → Hp → Prop) (h0 : Pv 0 σ H)
    (hs : ∀ (i : Nat) σ' H', lo + (i : Int) < k → Pv i σ' H' → tu { D with nx := Pv (i + 1), ct := Pv (i + 1), bk := s2 D } (σ'.set n (some (.int (lo + (i : Int))))) H') (hd : ∀ σ' H', Pv (k - lo).toNat σ' H' → s2 D σ' H') : tSeq (tFor (iRng2 ta) (gName n) tu) s2 D σ H :=
  s_forR2 (D := { D with nx := s2 D }) h hk Pv h0 hs hd
/-- over a list of ints -/
theorem s_forI {a : Addr} {ns : List Int} (h : Ev tl σ H (.ref a)) (hx : SqL K H a (ns.map V.int)) (Pv : Nat → L2.St → Hp → Prop) (h0 : Pv 0 σ H) (hl : ∀ i σ' H', i ≤ ns.length → Pv i σ' H' → SqL K H' a (ns.map V.int))
    (hs : ∀ i x σ' H', ns[i]? = some x → Pv i σ' H' → tu { D with nx := Pv (i + 1), ct := Pv (i + 1), bk := D.nx } (σ'.set n (some (.int x))) H') (hd : ∀ σ' H', Pv ns.length σ' H' → D.nx σ' H') : tFor (iList K tl) (gName n) tu D σ H :=
  h _ ⟨a, rfl, ⟨_, hx⟩, for_list (xs := ns.map V.int) Pv h0 (fun i σ' H' hi p => hl i σ' H' (by simpa using hi) p) (fun i x σ' H' hi p => by
    rw [List.getElem?_map] at hi
    cases e : ns[i]? with
    | none => rw [e] at hi; cases hi
    | some y => rw [e] at hi; cases hi; exact hs i y σ' H' e p) (fun σ' H' p => hd σ' H' (by simpa using p))⟩
theorem q_forI {a : Addr} {ns : List Int} (h : Ev tl σ H (.ref a)) (hx : SqL K H a (ns.map V.int)) (Pv : Nat → L2.St → Hp → Prop) (h0 : Pv 0 σ H) (hl : ∀ i σ' H', i ≤ ns.length → Pv i σ' H' → SqL K H' a (ns.map V.int))
    (hs : ∀ i x σ' H', ns[i]? = some x → Pv i σ' H' → tu { D with nx := Pv (i + 1), ct := Pv (i + 1), bk := s2 D } (σ'.set n (some (.int x))) H') (hd : ∀ σ' H', Pv ns.length σ' H' → s2 D σ' H') : tSeq (tFor (iList K tl) (gName n) tu) s2 D σ H :=
  s_forI (D := { D with nx := s2 D }) h hx Pv h0 hl hs hd
/-- over a new list of ints -/
theorem s_forN {ns : List Int} (h : EvL tl σ H (ns.map V.int)) (Pv : Addr → Nat → L2.St → Hp → Prop) (h0 : ∀ p, H p = none → Pv p 0 σ (upd H p (.lst (ns.map V.int)))) (hl : ∀ p i σ' H', H p = none → i ≤ ns.length → Pv p i σ' H' → SqL K H' p (ns.map V.int))
    (hs : ∀ p i x σ' H', H p = none → ns[i]? = some x → Pv p i σ' H' → tu { D with nx := Pv p (i + 1), ct := Pv p (i + 1), bk := D.nx } (σ'.set n (some (.int x))) H') (hd : ∀ p σ' H', H p = none → Pv p ns.length σ' H' → D.nx σ' H') : tFor (iList K tl) (gName n) tu D σ H :=
  h _ fun p hp => ⟨p, rfl, ⟨_, sq_up⟩, for_list (xs := ns.map V.int) (Pv p) (h0 p hp) (fun i σ' H' hi q => hl p i σ' H' hp (by simpa using hi) q) (fun i x σ' H' hi q => by
    rw [List.getElem?_map] at hi
    cases e : ns[i]? with
    | none => rw [e] at hi; cases hi
    | some y => rw [e] at hi; cases hi; exact hs p i y σ' H' hp e q) (fun σ' H' q => hd p σ' H' hp (by simpa using q))⟩
theorem q_forN {ns : List Int} (h : EvL tl σ H (ns.map V.int)) (Pv : Addr → Nat → L2.St → Hp → Prop) (h0 : ∀ p, H p = none → Pv p 0 σ (upd H p (.lst (ns.map V.int)))) (hl : ∀ p i σ' H', H p = none → i ≤ ns.length → Pv p i σ' H' → SqL K H' p (ns.map V.int))
    (hs : ∀ p i x σ' H', H p = none → ns[i]? = some x → Pv p i σ' H' → tu { D with nx := Pv p (i + 1), ct := Pv p (i + 1), bk := s2 D } (σ'.set n (some (.int x))) H') (hd : ∀ p σ' H', H p = none → Pv p ns.length σ' H' → s2 D σ' H') : tSeq (tFor (iList K tl) (gName n) tu) s2 D σ H :=
  s_forN (D := { D with nx := s2 D }) h Pv h0 hl hs hd
/-! ### comprehensions -/
/-- over a list: D the new one; the heap in the turns -/
theorem el_lc {a : Addr} {xs : List V} {vs : List Nat} (p : V → Bool) (f : V → V) (h : Ev tl σ H (.ref a)) (hx : SqL K H a xs) (hz : xs.length ≤ sizeLine) (hw : ∀ x, wipe ((wipe σ vs).set n (some x)) vs = wipe σ vs)
    (ht : ∀ x ∈ xs, ∀ D acc, H D = none → EvT t ((wipe σ vs).set n (some x)) (upd H D (.lst acc)) (p x)) (he : ∀ x ∈ xs, p x = true → ∀ D acc, H D = none → Ev te ((wipe σ vs).set n (some x)) (upd H D (.lst acc)) (f x)) :
    EvL (tLc (iList K tl) (gName n) t te vs) σ H ((xs.filter p).map f) := fun Q q => h _ ⟨a, rfl, ⟨xs, hx⟩, fun D hD =>
  lc_list (xs := xs) (fun i H' => H' = upd H D (.lst (((xs.take i).filter p).map f))) (by simp) (fun i H' _ e => by subst e; exact sq_new hD hx) (fun i x H' hi e => by
    subst e
    have hm : x ∈ xs := List.mem_of_getElem? hi
    have hlt : i < xs.length := (List.getElem?_eq_some_iff.mp hi).1
    have et : xs.take (i + 1) = xs.take i ++ [x] := by rw [List.take_add_one, hi]; rfl
    refine ⟨hw x, ht x hm D _ hD _ ?_⟩
    cases hp : p x with
    | true =>
      refine iteT (he x hm hp D _ hD _ ⟨_, upd_same, ?_, ?_⟩)
      · rw [List.length_map]
        refine Nat.lt_of_le_of_lt (List.length_filter_le _ _) ?_
        rw [List.length_take]
        omega
      · rw [upd_upd, et, List.filter_append, List.map_append, List.filter_cons, if_pos hp]; rfl
    | false =>
      refine iteF ?_
      rw [et, List.filter_append, List.map_append, List.filter_cons, if_neg (by rw [hp]; decide)]
      simp) (fun H' e => by subst e; rw [List.take_length]; exact q D hD)⟩
/-- over a new list -/
theorem el_lcN [Nod H] {xs : List V} {vs : List Nat} (p : V → Bool) (f : V → V) (h : EvL tl σ H xs) (hz : xs.length ≤ sizeLine) (hw : ∀ x, wipe ((wipe σ vs).set n (some x)) vs = wipe σ vs)
    (ht : ∀ x ∈ xs, ∀ q D acc, H q = none → H D = none → q ≠ D → EvT t ((wipe σ vs).set n (some x)) (upd (upd H q (.lst xs)) D (.lst acc)) (p x)) (he : ∀ x ∈ xs, p x = true → ∀ q D acc, H q = none → H D = none → q ≠ D → Ev te ((wipe σ vs).set n (some x)) (upd (upd H q (.lst xs)) D (.lst acc)) (f x)) :
    EvL (tFg (tLc (iList K tl) (gName n) t te vs)) σ H ((xs.filter p).map f) := el_fg fun Q q => by
  refine h _ fun r hr => ?_
  refine el_lc (K := K) (H := upd H r (.lst xs)) (tl := fun _ H Q => Q (.ref r) H) p f (fun _ z => z) sq_up hz hw (fun x hx D acc hD => ?_) (fun x hx hp D acc hD => ?_) _ fun D hD => ?_
  · obtain ⟨h1, h2⟩ := none_upd hD
    exact ht x hx r D acc hr h1 (Ne.symm h2)
  · obtain ⟨h1, h2⟩ := none_upd hD
    exact he x hx hp r D acc hr h1 (Ne.symm h2)
  · obtain ⟨h1, h2⟩ := none_upd hD
    exact q D _ h1 (ex_upd h1 (ex_new hr)) upd_same
/-- over range(k), range(lo, k) -/
theorem el_lcR1 {ta : TA} {k : Int} {vs : List Nat} (p : Int → Bool) (f : Int → V) (h : EvA ta σ H [.int k]) (hk : -(2 ^ 62) ≤ k ∧ k ≤ 16777216) (hw : ∀ x, wipe ((wipe σ vs).set n (some x)) vs = wipe σ vs)
    (ht : ∀ i : Int, 0 ≤ i → i < k → ∀ D acc, H D = none → EvT t ((wipe σ vs).set n (some (.int i))) (upd H D (.lst acc)) (p i)) (he : ∀ i : Int, 0 ≤ i → i < k → p i = true → ∀ D acc, H D = none → Ev te ((wipe σ vs).set n (some (.int i))) (upd H D (.lst acc)) (f i)) :
    EvL (tLc (iRng1 ta) (gName n) t te vs) σ H ((((List.range k.toNat).map Int.ofNat).filter p).map f) := fun Q q => h _ ⟨k, rfl, hk.1, by omega, fun D hD =>
  lc_range (lo := 0) (n := k.toNat) (fun i H' => H' = upd H D (.lst ((((List.range i).map Int.ofNat).filter p).map f))) (by simp) (fun i H' hi e => by
    subst e
    show wipe ((wipe σ vs).set n (some (.int (0 + (i : Int))))) vs = wipe σ vs ∧ t ((wipe σ vs).set n (some (.int (0 + (i : Int))))) _ _
    rw [Int.zero_add]
    refine ⟨hw _, ht i (by omega) (by omega) D _ hD _ ?_⟩
    rw [List.range_succ, List.map_append, List.filter_append, List.map_append]
    have hlen : ((((List.range i).map Int.ofNat).filter p).map f).length < sizeLine := by
      rw [List.length_map]
      refine Nat.lt_of_le_of_lt (List.length_filter_le _ _) ?_
      rw [List.length_map, List.length_range]
      have : sizeLine = 16777216 := by decide
      omega
    cases hp : p (i : Int) with
    | true =>
      refine iteT (he i (by omega) (by omega) hp D _ hD _ ⟨_, upd_same, hlen, ?_⟩)
      rw [upd_upd]
      congr 2
      simp [hp]
    | false =>
      refine iteF ?_
      congr 2
      simp [hp]) (fun H' e => by subst e; exact q D hD)⟩
end
end Px
set_option Elab.async false
set_option linter.all false
set_option maxRecDepth 100000
set_option maxHeartbeats 4000000
namespace Px
open PySem L2
/-- text * int -/
abbrev oRepS : R2 := fun x y H Q => ∃ z n, x = .str z ∧ y = .int n ∧ MulOk z n ∧ Q (.str (Txt.mul z n)) H
theorem op_repS {X : Cx} : OpR X (binaryOp .Mult) oRepS := by
  intro pins s σ H x y v u Q I rx ry h
  obtain ⟨z, n, rfl, rfl, ok, q⟩ := h
  obtain ⟨t, rfl⟩ := rx
  obtain ⟨t', rfl⟩ := ry
  exact SB.mul ok fun t1 k => ⟨.str _, H, I.tok _, ⟨_, rfl⟩, q⟩
/-- a def of the text, by its name: it keeps its promise -/
structure Fn (P : Program) (w : World) (K : PySem.W.Frag) (mg : Str → Option Value) (base : Heap) (x : Str) (k : Nat) (ps : List Str) (sp : Sp) : Prop where
  ex : ∃ (f : Addr) (fd : FuncData), FnOk P w K mg base CX0 k f fd ps sp ∧ mg x = some (.ref f) ∧ PySem.W.keepIn K (.ref f) = true ∧ Binds K fd ps []
theorem pe_fn {X : Cx} {k : Nat} {ps : List Str} {sp : Sp} {x : Str} {p pos : Pos} {e : Expr} {es : List Expr} {t : TA} (F : Fn X.prog X.w X.K X.mg X.base x k ps sp) (hr : Room k X.A) (ha : PA X (e :: es) t) (hg : Gl X x := by rfl)
    (hdb : (x == ("__debug__" : Str)) = false := by decide) (he : starEach (e :: es) X.env = (false, eval e X.env) :: starEach es X.env := by rfl) (hpl : (backTo pos (starEach es X.env)).any (·.1) = false := by rfl) :
    PE X (.Call (.Name x p) (e :: es) [] pos) (tCall sp [] E0 t) := by
  obtain ⟨f, fd, F1, g, kp, b⟩ := F.ex
  exact pe_call F1 hr hg g kp b .nil pass0 ha hdb he hpl
abbrev FnP (K : PySem.W.Frag) (x : Str) (st : Stmt) (f : Addr) (fd : FuncData) : Prop := FunD K x x (defArgs st) (defBody st) (defScope st) [] [] f fd
end Px
set_option Elab.async false
set_option linter.all false
set_option maxRecDepth 100000
set_option maxHeartbeats 4000000
namespace Px
open PySem L2
theorem cm {i j : Int} (h : -(2 ^ 200) < i ∧ i < 2 ^ 200 ∧ -(2 ^ 200) < j ∧ j < 2 ^ 200) : CMulW i j := by
  refine wide_mul (a := 200) (b := 200) ?_ ?_ (by decide) (by decide) (by decide)
  · have : i.natAbs < 2 ^ 200 := by omega
    exact this
  · have : j.natAbs < 2 ^ 200 := by omega
    exact this
theorem cd {i j : Int} (h : 0 < j ∧ j < 2 ^ 200) : CDivW i j := by
  refine wide_div (b := 200) h.1 ?_ (by decide) (by decide)
  have : j.natAbs < 2 ^ 200 := by omega
  exact this
theorem cp {i j : Int} (h : 0 ≤ j ∧ j ≤ 1000 ∧ -(2 ^ 60) < i ∧ i < 2 ^ 60) : CPow i j := by
  refine ⟨h.1, ?_, ?_⟩
  · omega
  · have : i.natAbs < 2 ^ 64 := by omega
    exact this
theorem fg_body {t : TS} {D : Ends} {σ : L2.St} {H : Hp} (h : t { nx := fun σ' H' => ∃ H'', Fg H H' H'' ∧ D.nx σ' H'', rt := fun v H' => ∃ H'', Fg H H' H'' ∧ D.rt v H'', bk := fun σ' H' => ∃ H'', Fg H H' H'' ∧ D.bk σ' H'', ct := fun σ' H' => ∃ H'', Fg H H' H'' ∧ D.ct σ' H'' } σ H) : sFg t D σ H := h
theorem upd_self {H : Hp} {a : Addr} {o : HO} (h : H a = some o) : upd H a o = H := by
  funext b
  unfold upd
  split
  · rename_i e; rw [e, h]
  · rfl
theorem upd_comm {H : Hp} {a b : Addr} {o u : HO} (h : a ≠ b) : upd (upd H a o) b u = upd (upd H b u) a o := by
  funext c
  unfold upd
  by_cases h1 : c = b
  · rw [if_pos h1, if_neg (by rw [h1]; exact Ne.symm h), if_pos h1]
  · rw [if_neg h1, if_neg h1]
theorem dp_ints {K : PySem.W.Frag} {H : Hp} : ∀ ns : List Int, DpAll K H (ns.map V.int) (ns.map PyData.int)
  | [] => .nil
  | n :: r => .cons (.int n) (dp_ints r)
theorem lay_ints : ∀ ns : List Int, PyData.canLayAll0 (ns.map PyData.int) = true
  | [] => by simp [PyData.canLayAll0]
  | n :: r => by simp [PyData.canLayAll0, PyData.canLay0, lay_ints r]
theorem dep_ints : ∀ ns : List Int, PyData.depthAll (ns.map PyData.int) = 0
  | [] => by simp [PyData.depthAll]
  | n :: r => by simp [PyData.depthAll, PyData.depth, dep_ints r]
theorem shaped_ints (ns : List Int) : SeqAt.shaped (.list (ns.map PyData.int)) = true := by
  unfold SeqAt.shaped
  rw [PyData.canLay0, lay_ints, PyData.depth, dep_ints]
  decide
theorem shaped_nil : SeqAt.shaped (.list []) = true := shaped_ints []
theorem eqv_ints : ∀ ns ms : List Int, PyData.eqvAll (ns.map PyData.int) (ms.map PyData.int) = decide (ns = ms)
  | [], [] => by simp [PyData.eqvAll]
  | [], m :: ms => by simp [PyData.eqvAll]
  | n :: ns, [] => by simp [PyData.eqvAll]
  | n :: ns, m :: ms => by
    simp only [List.map_cons, PyData.eqvAll, PyData.eqv, eqv_ints ns ms]
    by_cases h : n = m
    · subst h; by_cases h2 : ns = ms
      · subst h2; simp
      · simp [h2]
    · simp [h]
section
variable {K : PySem.W.Frag} {σ : L2.St} {H : Hp} {ta tb te : TE} {a b : Addr} {ns ms : List Int}
theorem dp_lst (h : SqL K H a (ns.map V.int)) : Dp K H (.ref a) (.list (ns.map PyData.int)) := .lst h (dp_ints ns)
theorem rv_eqI (ha : SqL K H a (ns.map V.int)) (hb : SqL K H b (ms.map V.int)) : RV (rEqD K) (.ref a) (.ref b) H (.bl (decide (ns = ms))) := fun Q q =>
  ⟨_, _, dp_lst ha, dp_lst hb, shaped_ints ns, shaped_ints ms, by rw [PyData.eqv, eqv_ints]; exact q⟩
theorem rv_neI (ha : SqL K H a (ns.map V.int)) (hb : SqL K H b (ms.map V.int)) : RV (rNeD K) (.ref a) (.ref b) H (.bl (!decide (ns = ms))) := fun Q q =>
  ⟨_, _, dp_lst ha, dp_lst hb, shaped_ints ns, shaped_ints ms, by rw [PyData.eqv, eqv_ints]; exact q⟩
/-- xs == [] and xs != [], the empty list made on the way -/
theorem et_isnil [Nod H] (hx : SqL K H a (ns.map V.int)) (ha : Ev ta σ H (.ref a)) : EvT (bFg (tTest (tOp (rEqD K) ta (tLst tNil)))) σ H (decide (ns = [])) :=
  et_fg fun Q q => ha _ (el_nil _ fun p hp => rv_eqI (ms := []) (sq_new hp hx) sq_up _ ⟨_, rfl, q _ (ex_new hp)⟩)
theorem et_nonil [Nod H] (hx : SqL K H a (ns.map V.int)) (ha : Ev ta σ H (.ref a)) : EvT (bFg (tTest (tOp (rNeD K) ta (tLst tNil)))) σ H (!decide (ns = [])) :=
  et_fg fun Q q => ha _ (el_nil _ fun p hp => rv_neI (ms := []) (sq_new hp hx) sq_up _ ⟨_, rfl, q _ (ex_new hp)⟩)
/-- a list made on the way, == [] and != [] -/
theorem et_isnilN [Nod H] (h : EvL ta σ H (ns.map V.int)) : EvT (bFg (tTest (tOp (rEqD K) ta (tLst tNil)))) σ H (decide (ns = [])) :=
  et_fg fun Q q => h _ fun r hr => el_nil _ fun p hp => rv_eqI (ms := []) (sq_new hp sq_up) sq_up _ ⟨_, rfl, q _ (ex_upd (none_upd hp).1 (ex_new hr))⟩
theorem et_nonilN [Nod H] (h : EvL ta σ H (ns.map V.int)) : EvT (bFg (tTest (tOp (rNeD K) ta (tLst tNil)))) σ H (!decide (ns = [])) :=
  et_fg fun Q q => h _ fun r hr => el_nil _ fun p hp => rv_neI (ms := []) (sq_new hp sq_up) sq_up _ ⟨_, rfl, q _ (ex_upd (none_upd hp).1 (ex_new hr))⟩
/-- a call of a def that leaves the heap as it is -/
theorem ev_call {sp : Sp} {vs : List V} {v : V} {E : XK} {t : TA} (h : EvA t σ H vs) (hs : ∀ Q : VK, Q v H → sp vs H Q E) : Ev (tCall sp [] E t) σ H v := fun Q q => h _ (by
  show sp (vs ++ []) H Q E
  rw [List.append_nil]
  exact hs Q q)
theorem el_call {sp : Sp} {vs xs : List V} {E : XK} {t : TA} (h : EvA t σ H vs) (hs : ∀ Q : VK, (∀ p, H p = none → Q (.ref p) (upd H p (.lst xs))) → sp vs H Q E) : EvL (tCall sp [] E t) σ H xs := fun Q q => h _ (by
  show sp (vs ++ []) H Q E
  rw [List.append_nil]
  exact hs Q q)
theorem w_call {sp : Sp} {vs : List V} {E : XK} {t : TA} {Q : VK} (h : EvA t σ H vs) (hs : sp vs H Q E) : tCall sp [] E t σ H Q := h _ (by
  show sp (vs ++ []) H Q E
  rw [List.append_nil]
  exact hs)
end
end Px
set_option Elab.async false
set_option linter.all false
set_option maxRecDepth 100000
set_option maxHeartbeats 4000000
namespace Px
open PySem L2
section
variable {K : PySem.W.Frag} {σ : L2.St} {H : Hp} {ta tb te : TE} {l b : Addr} {ns ms : List Int} {x : Int} {D : Ends} {s2 : TS}
theorem sz (n : Nat) (h : n < 16000000) : n < sizeLine := Nat.lt_of_lt_of_le h (by decide)
theorem s_appI (hz : ns.length < 16000000) (ha : Ev ta σ (upd H l (.lst (ns.map V.int))) (.ref l)) (h : Ev te σ (upd H l (.lst (ns.map V.int))) (.int x)) (k : D.nx σ (upd H l (.lst ((ns ++ [x]).map V.int)))) : tDrop (tBM K "list" rAppend ta (tCons te tNil)) D σ (upd H l (.lst (ns.map V.int))) :=
  s_app upd_same (by rw [List.length_map]; exact sz _ hz) ha h (by rw [upd_upd]; rw [List.map_append] at k; exact k)
theorem q_appI (hz : ns.length < 16000000) (ha : Ev ta σ (upd H l (.lst (ns.map V.int))) (.ref l)) (h : Ev te σ (upd H l (.lst (ns.map V.int))) (.int x)) (k : s2 D σ (upd H l (.lst ((ns ++ [x]).map V.int)))) : tSeq (tDrop (tBM K "list" rAppend ta (tCons te tNil))) s2 D σ (upd H l (.lst (ns.map V.int))) :=
  s_appI (D := { D with nx := s2 D }) hz ha h k
theorem s_retW {D : Ends} (h : te σ H D.rt) : tRet te D σ H := h
theorem w_op {r : R2} {Q : VK} (h : ta σ H fun x H1 => tb σ H1 fun y H2 => r x y H2 Q) : tOp r ta tb σ H Q := h
theorem w_cb {r : List V → Hp → VK → Prop} {t : TA} {Q : VK} (h : t σ H fun vs H1 => r vs H1 Q) : tCB r t σ H Q := h
theorem w_cons {t : TA} {Q : List V → Hp → Prop} (h : ta σ H fun x H1 => t σ H1 fun xs H2 => Q (x :: xs) H2) : tCons ta t σ H Q := h
theorem w_one {Q : List V → Hp → Prop} (h : ta σ H fun x H1 => Q [x] H1) : tCons ta tNil σ H Q := h
theorem w_ev {v : V} {Q : VK} (h : Ev te σ H v) (q : Q v H) : te σ H Q := h Q q
theorem w_lst {t : TA} {Q : VK} (h : t σ H fun xs H1 => xs.length ≤ sizeLine ∧ ∀ p, H1 p = none → Q (.ref p) (upd H1 p (.lst xs))) : tLst t σ H Q := h
theorem w_fg {Q : VK} (h : te σ H fun v H' => ∃ H'', Fg H H' H'' ∧ Q v H'') : tFg te σ H Q := h
theorem w_pop0 {x : V} {xs : List V} {a : Addr} {Q : VK} (ha : Ev ta σ H (.ref a)) (hx : H a = some (.lst (x :: xs))) (q : Q x (upd H a (.lst xs))) : tBM K "list" rPopAt ta (tCons (tC (.int 0)) tNil) σ H Q :=
  ha _ ⟨.inl ⟨rfl, _, sq_at hx⟩, a, x :: xs, 0, 0, x, rfl, rfl, hx, by decide, by decide, by unfold seqIndex?; simp, rfl, q⟩
theorem fg_newL {H H' : Hp} {p : Addr} {xs : List V} [n : Nod H] (hp : H p = none) (e : Ex H H') (h : H' p = some (.lst xs)) : Fg H H' (upd H p (.lst xs)) := fg_new trivial hp e h
theorem fg_mutL {H H' : Hp} {p : Addr} {xs ys : List V} [n : Nod H] (hp : H p = some (.lst xs)) (e : ∀ a u, a ≠ p → H a = some u → H' a = some u) (h : H' p = some (.lst ys)) : Fg H H' (upd H p (.lst ys)) := fg_mut trivial hp e h
theorem fg_mut_newL {H H' : Hp} {l p : Addr} {xs ys zs : List V} [n : Nod H] (hl : H l = some (.lst xs)) (hp : H p = none) (e : ∀ a u, a ≠ l → H a = some u → H' a = some u) (h : H' l = some (.lst ys)) (h2 : H' p = some (.lst zs)) : Fg H H' (upd (upd H l (.lst ys)) p (.lst zs)) := fg_mut_new trivial trivial hl hp e h h2
theorem cutV_int (ns : List Int) (lo hi : Option Int) : cutV (ns.map V.int) lo hi = ((ns.drop (HT.sIx ns.length 0 lo)).take (HT.sIx ns.length ns.length hi - HT.sIx ns.length 0 lo)).map V.int := by
  unfold cutV
  rw [List.length_map, List.map_take, List.map_drop]
theorem cut_to (ns : List Int) (k : Nat) : cutV (ns.map V.int) none (some (k : Int)) = (ns.take k).map V.int := by
  rw [cutV_int, HT.sIx_none, HT.sIx_nat]
  simp
theorem cut_from (ns : List Int) (k : Nat) : cutV (ns.map V.int) (some (k : Int)) none = (ns.drop k).map V.int := by
  rw [cutV_int, HT.sIx_none, HT.sIx_nat]
  by_cases h : k ≤ ns.length
  · rw [show min k ns.length = k by omega, List.take_of_length_le (by simp)]
  · rw [show min k ns.length = ns.length by omega, List.drop_of_length_le (Nat.le_refl _), List.drop_of_length_le (by omega)]
    simp
end
end Px
set_option Elab.async false
set_option linter.all false
set_option maxRecDepth 100000
set_option maxHeartbeats 4000000
namespace Px
open PySem L2
/-- what a for asks, once what it walks is known -/
def Lp (J : It) (g : TG) (tb : TS) (D : Ends) (σ : L2.St) (H1 : Hp) : Prop := ∃ W : Nat → Nat → L2.St → Hp → Prop, (∃ m, W 0 m σ H1) ∧ ∀ i m σ H, W i m σ H →
  (J.stop i H ∧ D.nx σ H) ∨ (J.go i H ∧ ∃ N : L2.St → Hp → Prop, (∀ σ' H', N σ' H' → ∃ m', m' < m ∧ W (i + 1) m' σ' H') ∧ ∀ x H', J.yld i H x H' → g x σ H' fun σ2 H2 => tb { D with nx := N, ct := N, bk := D.nx } σ2 H2)
section
variable {K : PySem.W.Frag} {σ : L2.St} {H : Hp} {D : Ends} {g : TG} {tu s2 : TS} {n : Nat}
theorem w_forR1 {ta : TA} (h : ta σ H fun vs H1 => ∃ j : Int, vs = [.int j] ∧ -(2 ^ 62) ≤ j ∧ j < 2 ^ 62 ∧ Lp (Itr 0 j.toNat) g tu D σ H1) : tFor (iRng1 ta) g tu D σ H := h
theorem w_forR2 {ta : TA} (h : ta σ H fun vs H1 => ∃ i j : Int, vs = [.int i, .int j] ∧ (-(2 ^ 62) ≤ i ∧ i < 2 ^ 62 ∧ -(2 ^ 62) ≤ j ∧ j < 2 ^ 62) ∧ Lp (Itr i (j - i).toNat) g tu D σ H1) : tFor (iRng2 ta) g tu D σ H := h
theorem w_forL {tl : TE} (h : tl σ H fun x H1 => ∃ a, x = .ref a ∧ (∃ xs, SqL K H1 a xs) ∧ Lp (Itl K a) g tu D σ H1) : tFor (iList K tl) g tu D σ H := h
theorem w_forT {tl : TE} (h : tl σ H fun x H1 => ∃ a, x = .ref a ∧ (∃ xs, SqT K H1 a xs) ∧ Lp (Itt K a) g tu D σ H1) : tFor (iTup K tl) g tu D σ H := h
theorem w_forE {ta : TA} (h : ta σ H fun vs H1 => ∃ a xs, vs = [.ref a] ∧ SqL K H1 a xs ∧ Lp (Ite K a) g tu D σ H1) : tFor (iEnum K ta) g tu D σ H := h
theorem w_forZ {ta : TA} (h : ta σ H fun vs H1 => ∃ a b xs ys, vs = [.ref a, .ref b] ∧ SqL K H1 a xs ∧ SqL K H1 b ys ∧ Lp (Itz K a b) g tu D σ H1) : tFor (iZip K ta) g tu D σ H := h
theorem lp_range {k : Nat} (Pv : Nat → L2.St → Hp → Prop) (h0 : Pv 0 σ H)
    (hs : ∀ (i : Nat) σ' H', i < k → Pv i σ' H' → tu { D with nx := Pv (i + 1), ct := Pv (i + 1), bk := D.nx } (σ'.set n (some (.int (i : Int)))) H') (hd : ∀ σ' H', Pv k σ' H' → D.nx σ' H') : Lp (Itr 0 k) (gName n) tu D σ H :=
  for_range (lo := 0) (n := k) Pv h0 (fun i σ' H' hi p => by
    show tu { D with nx := Pv (i + 1), ct := Pv (i + 1), bk := D.nx } (σ'.set n (some (.int ((0 : Int) + (i : Int))))) H'
    rw [Int.zero_add]
    exact hs i σ' H' hi p) hd
theorem lp_list {a : Addr} {xs : List V} (Pv : Nat → L2.St → Hp → Prop) (h0 : Pv 0 σ H) (hl : ∀ i σ' H', i ≤ xs.length → Pv i σ' H' → SqL K H' a xs)
    (hs : ∀ i x σ' H', xs[i]? = some x → Pv i σ' H' → g x σ' H' fun σ2 H2 => tu { D with nx := Pv (i + 1), ct := Pv (i + 1), bk := D.nx } σ2 H2) (hd : ∀ σ' H', Pv xs.length σ' H' → D.nx σ' H') : Lp (Itl K a) g tu D σ H := for_list Pv h0 hl hs hd
theorem lp_tup {a : Addr} {xs : List V} (Pv : Nat → L2.St → Hp → Prop) (h0 : Pv 0 σ H) (hl : ∀ i σ' H', i ≤ xs.length → Pv i σ' H' → SqT K H' a xs)
    (hs : ∀ i x σ' H', xs[i]? = some x → Pv i σ' H' → g x σ' H' fun σ2 H2 => tu { D with nx := Pv (i + 1), ct := Pv (i + 1), bk := D.nx } σ2 H2) (hd : ∀ σ' H', Pv xs.length σ' H' → D.nx σ' H') : Lp (Itt K a) g tu D σ H := for_tup Pv h0 hl hs hd
/-- for k, x in enumerate(xs): two names -/
theorem lp_enum {a : Addr} {xs : List V} {n1 n2 : Nat} (Pv : Nat → L2.St → Hp → Prop) (h0 : Pv 0 σ H) (hl : ∀ i σ' H', i ≤ xs.length → Pv i σ' H' → SqL K H' a xs)
    (hs : ∀ i x σ' H' T, xs[i]? = some x → Pv i σ' H' → H' T = none → tu { D with nx := Pv (i + 1), ct := Pv (i + 1), bk := D.nx } ((σ'.set n1 (some (.int (i : Int)))).set n2 (some x)) (upd H' T (.tup [.int (i : Int), x]))) (hd : ∀ σ' H', Pv xs.length σ' H' → D.nx σ' H') :
    Lp (Ite K a) (gTup K 2 (gCons (gName n1) (gCons (gName n2) gNil))) tu D σ H :=
  for_it (walk_enum (K := K) (a := a) (xs := xs)) Pv h0 hl (fun i v σ' H' H'' hi p y => by
    obtain ⟨T, x, y, rfl, hT, rfl, e1, e2⟩ := y
    cases e1
    exact ⟨T, _, rfl, st_at upd_same, rfl, _, _, rfl, _, _, rfl, rfl, hs i y σ' H' T e2 p hT⟩) hd
/-- for x, y in zip(xs, ys): two names -/
theorem lp_zip {a b : Addr} {xs ys : List V} {n1 n2 : Nat} (Pv : Nat → L2.St → Hp → Prop) (h0 : Pv 0 σ H) (hl : ∀ i σ' H', i ≤ min xs.length ys.length → Pv i σ' H' → SqL K H' a xs ∧ SqL K H' b ys)
    (hs : ∀ i x y σ' H' T, xs[i]? = some x → ys[i]? = some y → Pv i σ' H' → H' T = none → tu { D with nx := Pv (i + 1), ct := Pv (i + 1), bk := D.nx } ((σ'.set n1 (some x)).set n2 (some y)) (upd H' T (.tup [x, y]))) (hd : ∀ σ' H', Pv (min xs.length ys.length) σ' H' → D.nx σ' H') :
    Lp (Itz K a b) (gTup K 2 (gCons (gName n1) (gCons (gName n2) gNil))) tu D σ H :=
  for_it (walk_zip (K := K) (a := a) (b := b) (xs := xs) (ys := ys) rfl) Pv h0 hl (fun i v σ' H' H'' hi p y => by
    obtain ⟨T, x, y, rfl, hT, rfl, e1, e2⟩ := y
    exact ⟨T, _, rfl, st_at upd_same, rfl, _, _, rfl, _, _, rfl, rfl, hs i x y σ' H' T e1 e2 p hT⟩) hd
end
end Px
set_option Elab.async false
set_option linter.all false
set_option maxRecDepth 100000
set_option maxHeartbeats 4000000
namespace Px
open PySem L2
def pV (p : Int → Bool) : V → Bool
  | .int i => p i
  | _ => false
def fV (f : Int → Int) : V → V
  | .int i => .int (f i)
  | v => v
theorem filt_int (p : Int → Bool) (f : Int → Int) (ns : List Int) : ((ns.map V.int).filter (pV p)).map (fV f) = ((ns.filter p).map f).map V.int := by
  induction ns with
  | nil => rfl
  | cons a l ih =>
    simp only [List.map_cons, List.filter_cons]
    show (List.map (fV f) (if pV p (V.int a) = true then V.int a :: List.filter (pV p) (l.map V.int) else List.filter (pV p) (l.map V.int))) = _
    have e : pV p (V.int a) = p a := rfl
    rw [e]
    by_cases h : p a = true
    · rw [if_pos h, if_pos h]
      simp only [List.map_cons, ih]
      rfl
    · rw [if_neg h, if_neg h]
      exact ih
section
variable {K : PySem.W.Frag} {σ : L2.St} {H : Hp} {tl te : TE} {t : TT} {n : Nat}
theorem mem_int {ns : List Int} {x : V} (h : x ∈ ns.map V.int) : ∃ i ∈ ns, x = .int i := by
  obtain ⟨i, hi, rfl⟩ := List.mem_map.mp h
  exact ⟨i, hi, rfl⟩
/-- [f(i) for i in ns if p(i)], ints to ints -/
theorem el_lcI {a : Addr} {ns : List Int} {vs : List Nat} (p : Int → Bool) (f : Int → Int) (h : Ev tl σ H (.ref a)) (hx : SqL K H a (ns.map V.int)) (hz : ns.length ≤ 16000000) (hw : ∀ x, wipe ((wipe σ vs).set n (some x)) vs = wipe σ vs)
    (ht : ∀ i ∈ ns, ∀ D acc, H D = none → EvT t ((wipe σ vs).set n (some (.int i))) (upd H D (.lst acc)) (p i)) (he : ∀ i ∈ ns, p i = true → ∀ D acc, H D = none → Ev te ((wipe σ vs).set n (some (.int i))) (upd H D (.lst acc)) (.int (f i))) :
    EvL (tLc (iList K tl) (gName n) t te vs) σ H (((ns.filter p).map f).map V.int) := by
  rw [← filt_int]
  refine el_lc (pV p) (fV f) h hx (by rw [List.length_map]; exact Nat.le_trans hz (by decide)) hw (fun x hx D acc hD => ?_) (fun x hx hp D acc hD => ?_)
  · obtain ⟨i, hi, rfl⟩ := mem_int hx
    exact ht i hi D acc hD
  · obtain ⟨i, hi, rfl⟩ := mem_int hx
    exact he i hi hp D acc hD
theorem el_lcIN [Nod H] {ns : List Int} {vs : List Nat} (p : Int → Bool) (f : Int → Int) (h : EvL tl σ H (ns.map V.int)) (hz : ns.length ≤ 16000000) (hw : ∀ x, wipe ((wipe σ vs).set n (some x)) vs = wipe σ vs)
    (ht : ∀ i ∈ ns, ∀ q D acc, H q = none → H D = none → q ≠ D → EvT t ((wipe σ vs).set n (some (.int i))) (upd (upd H q (.lst (ns.map V.int))) D (.lst acc)) (p i)) (he : ∀ i ∈ ns, p i = true → ∀ q D acc, H q = none → H D = none → q ≠ D → Ev te ((wipe σ vs).set n (some (.int i))) (upd (upd H q (.lst (ns.map V.int))) D (.lst acc)) (.int (f i))) :
    EvL (tFg (tLc (iList K tl) (gName n) t te vs)) σ H (((ns.filter p).map f).map V.int) := by
  rw [← filt_int]
  refine el_lcN (pV p) (fV f) h (by rw [List.length_map]; exact Nat.le_trans hz (by decide)) hw (fun x hx q D acc hq hD hn => ?_) (fun x hx hp q D acc hq hD hn => ?_)
  · obtain ⟨i, hi, rfl⟩ := mem_int hx
    exact ht i hi q D acc hq hD hn
  · obtain ⟨i, hi, rfl⟩ := mem_int hx
    exact he i hi hp q D acc hq hD hn
/-- a call whose first argument is a new list -/
theorem ev_callL [Nod H] {sp : Sp} {xs vs : List V} {v : V} {E : XK} {ta : TA} (h : EvL tl σ H xs) (ha : ∀ p, H p = none → EvA ta σ (upd H p (.lst xs)) vs) (hs : ∀ p, H p = none → ∀ Q : VK, Q v (upd H p (.lst xs)) → sp (.ref p :: vs) (upd H p (.lst xs)) Q E) : Ev (tFg (tCall sp [] E (tCons tl ta))) σ H v :=
  ev_fg fun Q q => h _ fun p hp => ha p hp _ (by
    show sp (.ref p :: vs ++ []) _ _ E
    rw [List.append_nil]
    exact hs p hp _ (q _ (ex_new hp)))
theorem ex_ne {H H' : Hp} {p : Addr} {xs : List V} {o : HO} (hp : H p = none) (e : Ex H H') : Ex H (upd H' p o) := ex_upd hp e
end
end Px
set_option Elab.async false
set_option linter.all false
set_option maxRecDepth 100000
set_option maxHeartbeats 4000000
namespace Px
open PySem L2
/-! ### tests by what they say -/
def EvP (t : TT) (σ : L2.St) (H : Hp) (P : Prop) : Prop := ∀ Q : Bool → Hp → Prop, (P → Q true H) → (¬ P → Q false H) → t σ H Q
section
variable {K : PySem.W.Frag} {σ : L2.St} {H : Hp} {ta tb tc te tl : TE} {t u : TT} {x y z v : V} {D : Ends} {s1 s2 s3 tu : TS} {n : Nat} {i j k : Int} {P R : Prop}
theorem ev_v' (h : σ[n]? = some (some v)) : Ev (tVar n) σ H v := ev_v n h
theorem ep_of {b : Bool} (h : EvT t σ H b) : EvP t σ H (b = true) := fun Q h1 h2 => h Q (by
  cases b with
  | true => exact h1 rfl
  | false => exact h2 (by decide))
theorem ep_dec [Decidable P] (h : EvT t σ H (decide P)) : EvP t σ H P := fun Q h1 h2 => h Q (by
  by_cases c : P
  · rw [decide_eq_true c]; exact h1 c
  · rw [decide_eq_false c]; exact h2 c)
theorem ep_iff (h : EvP t σ H P) (e : P ↔ R) : EvP t σ H R := fun Q h1 h2 => h Q (fun p => h1 (e.mp p)) fun p => h2 fun r => p (e.mpr r)
theorem ep_lt (ha : Ev ta σ H (.int i)) (hb : Ev tb σ H (.int j)) : EvP (tTest (tOp oLt ta tb)) σ H (i < j) := ep_dec (et_t (ev_lt ha hb))
theorem ep_le (ha : Ev ta σ H (.int i)) (hb : Ev tb σ H (.int j)) : EvP (tTest (tOp oLe ta tb)) σ H (i ≤ j) := ep_dec (et_t (ev_le ha hb))
theorem ep_gt (ha : Ev ta σ H (.int i)) (hb : Ev tb σ H (.int j)) : EvP (tTest (tOp oGt ta tb)) σ H (j < i) := ep_dec (et_t (ev_gt ha hb))
theorem ep_ge (ha : Ev ta σ H (.int i)) (hb : Ev tb σ H (.int j)) : EvP (tTest (tOp oGe ta tb)) σ H (j ≤ i) := ep_dec (et_t (ev_ge ha hb))
theorem ep_eqi (ha : Ev ta σ H (.int i)) (hb : Ev tb σ H (.int j)) : EvP (tTest (tOp rEq ta tb)) σ H (i = j) := ep_dec (et_t (ev_eqi ha hb))
theorem ep_nei (ha : Ev ta σ H (.int i)) (hb : Ev tb σ H (.int j)) : EvP (tTest (tOp rNe ta tb)) σ H (i ≠ j) := fun Q h1 h2 => et_t (ev_nei ha hb) Q (by
  by_cases c : i = j
  · rw [decide_eq_true c]; exact h2 fun z => z c
  · rw [decide_eq_false c]; exact h1 c)
theorem ep_b {b : Bool} (h : Ev te σ H (.bl b)) : EvP (tB te) σ H (b = true) := ep_of (et_b h)
theorem ep_bd [Decidable P] (h : Ev te σ H (.bl (decide P))) : EvP (tB te) σ H P := ep_dec (et_b h)
theorem ep_isN (ha : Ev ta σ H x) : EvP (tTest (tOp oIsN ta (tC .non))) σ H (x = .non) := ep_dec (et_t (ev_isN ha))
theorem ep_not (h : EvP t σ H P) : EvP (tNot t) σ H (¬ P) := fun Q h1 h2 => h _ (fun p => h2 fun z => z p) h1
theorem ep_and (h : EvP t σ H P) (g : P → EvP u σ H R) : EvP (tAnd t u) σ H (P ∧ R) := fun Q h1 h2 => h _ (fun p => iteT (g p _ (fun r => h1 ⟨p, r⟩) fun r => h2 fun z => r z.2)) fun p => iteF (h2 fun z => p z.1)
theorem ep_or (h : EvP t σ H P) (g : ¬ P → EvP u σ H R) : EvP (tOr t u) σ H (P ∨ R) := fun Q h1 h2 => h _ (fun p => iteT (h1 (.inl p))) fun p => iteF (g p _ (fun r => h1 (.inr r)) fun r => h2 fun z => z.elim p r)
theorem ep_yes (h : EvP t σ H P) (p : P) : EvT t σ H true := fun Q q => h Q (fun _ => q) fun z => absurd p z
theorem ep_no (h : EvP t σ H P) (p : ¬ P) : EvT t σ H false := fun Q q => h Q (fun z => absurd z p) fun _ => q
/-- i < j < k -/
theorem ep_chain {r r' : R2} {a b : Bool} (ha : Ev ta σ H x) (hb : Ev tb σ H y) (hr : RV r x y H (.bl a)) (hc : a = true → Ev tc σ H z) (hr' : a = true → RV r' y z H (.bl b)) : EvP (tTest (tChain r r' ta tb tc)) σ H (a = true ∧ b = true) :=
  ep_iff (ep_of (et_t (ev_chain ha hb hr hc hr'))) (by simp)
theorem s_ifP (h : EvP t σ H P) (h1 : P → s1 D σ H) (h2 : ¬ P → s2 D σ H) : tIfS t s1 s2 D σ H := h _ (fun p => iteT (h1 p)) fun p => iteF (h2 p)
theorem q_ifP (h : EvP t σ H P) (h1 : P → s1 { D with nx := s3 D } σ H) (h2 : ¬ P → s2 { D with nx := s3 D } σ H) : tSeq (tIfS t s1 s2) s3 D σ H := s_ifP (D := { D with nx := s3 D }) h h1 h2
theorem q_whenP (h : EvP t σ H P) (h1 : P → s1 { D with nx := s3 D } σ H) (h2 : ¬ P → s3 D σ H) : tSeq (tIfS t s1 tNext) s3 D σ H := s_ifP (D := { D with nx := s3 D }) h h1 h2
theorem s_whenP (h : EvP t σ H P) (h1 : P → s1 D σ H) (h2 : ¬ P → D.nx σ H) : tIfS t s1 tNext D σ H := s_ifP h h1 h2
theorem q_never (h : EvP t σ H P) (h1 : ¬ P) (h2 : s3 D σ H) : tSeq (tIfS t s1 tNext) s3 D σ H := q_whenP h (fun p => absurd p h1) fun _ => h2
theorem s_whileP (W : Nat → L2.St → Hp → Prop) (m0 : Nat) (h0 : W m0 σ H)
    (hs : ∀ m σ' H', W m σ' H' → ∃ P, EvP t σ' H' P ∧ (P → tu { D with nx := fun σ2 H2 => ∃ m', m' < m ∧ W m' σ2 H2, ct := fun σ2 H2 => ∃ m', m' < m ∧ W m' σ2 H2, bk := D.nx } σ' H') ∧ (¬ P → D.nx σ' H')) : tWhile t tu D σ H :=
  ⟨W, ⟨m0, h0⟩, fun m σ' H' hw => by
    obtain ⟨P, hb, h1, h2⟩ := hs m σ' H' hw
    exact hb _ (fun p => iteT ⟨_, fun σ2 H2 q => q, h1 p⟩) fun p => iteF (h2 p)⟩
theorem q_whileP (W : Nat → L2.St → Hp → Prop) (m0 : Nat) (h0 : W m0 σ H)
    (hs : ∀ m σ' H', W m σ' H' → ∃ P, EvP t σ' H' P ∧ (P → tu { D with nx := fun σ2 H2 => ∃ m', m' < m ∧ W m' σ2 H2, ct := fun σ2 H2 => ∃ m', m' < m ∧ W m' σ2 H2, bk := s2 D } σ' H') ∧ (¬ P → s2 D σ' H')) : tSeq (tWhile t tu) s2 D σ H :=
  s_whileP (D := { D with nx := s2 D }) W m0 h0 hs
theorem w_evL {xs : List V} {Q : VK} (h : EvL te σ H xs) (k : ∀ p, H p = none → Q (.ref p) (upd H p (.lst xs))) : te σ H Q := h Q k
theorem w_callW {sp : Sp} {E : XK} {t : TA} {Q : VK} (h : t σ H fun vs H1 => sp (vs ++ []) H1 Q E) : tCall sp [] E t σ H Q := h
theorem w_nil {Q : List V → Hp → Prop} (h : Q [] H) : tNil σ H Q := h
theorem q_drop (h : te σ H fun _ H1 => s2 D σ H1) : tSeq (tDrop te) s2 D σ H := h
theorem s_dropW (h : te σ H fun _ H1 => D.nx σ H1) : tDrop te D σ H := h
theorem w_test {b : Bool} {Q : Bool → Hp → Prop} (h : te σ H fun v H1 => ∃ b, v = .bl b ∧ Q b H1) : tTest te σ H Q := h
theorem w_B {Q : Bool → Hp → Prop} (h : te σ H fun v H1 => ∃ b, v = .bl b ∧ Q b H1) : tB te σ H Q := h
theorem w_if {Q : VK} (h : t σ H fun b H1 => if b = true then ta σ H1 Q else tb σ H1 Q) : tIf t ta tb σ H Q := h
end
/-! ### lists that are one's own, over a base -/
structure Own (B : Hp) (L : List (Addr × List V)) (H : Hp) : Prop where
  nod : Nod H
  ex : Ex B H
  off : ∀ q ∈ L, B q.1 = none
  dis : (L.map (·.1)).Nodup
  has : ∀ q ∈ L, H q.1 = some (.lst q.2)
section
variable {K : PySem.W.Frag} {B H H' : Hp} {L : List (Addr × List V)} {p a : Addr} {xs ys zs : List V}
theorem Own.nil [n : Nod H] : Own H [] H := ⟨n, ex_refl, fun _ h => (List.not_mem_nil h).elim, List.Pairwise.nil, fun _ h => (List.not_mem_nil h).elim⟩
theorem Own.atI (o : Own B L H) (i : Nat) (h : L[i]? = some (p, xs)) : H p = some (.lst xs) := o.has _ (List.mem_of_getElem? h)
theorem Own.sqi (o : Own B L H) (i : Nat) (h : L[i]? = some (p, xs)) : SqL K H p xs := sq_at (o.atI i h)
theorem Own.offI (o : Own B L H) (i : Nat) (h : L[i]? = some (p, xs)) : B p = none := o.off _ (List.mem_of_getElem? h)
theorem Own.sq (o : Own B L H) (h : SqL K B a xs) : SqL K H a xs := ex_sq o.ex h
theorem Own.sqt (o : Own B L H) (h : SqT K B a xs) : SqT K H a xs := ex_sqt o.ex h
theorem Own.new (o : Own B L H) (hp : H p = none) : Own B ((p, xs) :: L) (upd H p (.lst xs)) where
  nod := have := o.nod; inferInstance
  ex := ex_upd (ex_none o.ex hp) o.ex
  off := fun q hq => by
    rcases List.mem_cons.mp hq with rfl | hq
    · exact ex_none o.ex hp
    · exact o.off q hq
  dis := by
    rw [List.map_cons, List.nodup_cons]
    refine ⟨fun z => ?_, o.dis⟩
    obtain ⟨q, hq, e⟩ := List.mem_map.mp z
    have := o.has q hq
    rw [e, hp] at this
    cases this
  has := fun q hq => by
    rcases List.mem_cons.mp hq with rfl | hq
    · exact upd_same
    · rw [upd_ne (ne_of_none (o.has q hq) hp)]; exact o.has q hq
theorem Own.tup (o : Own B L H) (hp : H p = none) : Own B L (upd H p (.tup xs)) where
  nod := have := o.nod; inferInstance
  ex := ex_upd (ex_none o.ex hp) o.ex
  off := o.off
  dis := o.dis
  has := fun q hq => by rw [upd_ne (ne_of_none (o.has q hq) hp)]; exact o.has q hq
theorem Own.tmp (o : Own B L H) (hp : H p = none) : Own B L (upd H p (.lst xs)) where
  nod := have := o.nod; inferInstance
  ex := ex_upd (ex_none o.ex hp) o.ex
  off := o.off
  dis := o.dis
  has := fun q hq => by rw [upd_ne (ne_of_none (o.has q hq) hp)]; exact o.has q hq
theorem Own.any (o : Own B L H) (e : Ex H H') (n : Nod H') : Own B L H' := ⟨n, ex_trans o.ex e, o.off, o.dis, fun q hq => e _ _ (o.has q hq)⟩
theorem Own.mut (o : Own B L H) (i : Nat) (h : L[i]? = some (p, xs)) : Own B (L.set i (p, ys)) (upd H p (.lst ys)) where
  nod := have := o.nod; inferInstance
  ex := fun b u hb => by
    rw [upd_ne (fun e => by rw [e, o.offI i h] at hb; cases hb)]
    exact o.ex b u hb
  off := fun q hq => by
    rcases List.mem_or_eq_of_mem_set hq with hq | rfl
    · exact o.off q hq
    · exact o.offI i h
  dis := by
    have e : (L.set i (p, ys)).map (·.1) = L.map (·.1) := by
      rw [List.map_set]
      obtain ⟨hi, hx⟩ := List.getElem?_eq_some_iff.mp h
      have : (L.map (·.1))[i]'(by simpa using hi) = p := by rw [List.getElem_map, hx]
      have e2 := List.set_getElem_self (as := L.map (·.1)) (i := i) (by simpa using hi)
      rw [this] at e2
      exact e2
    rw [e]; exact o.dis
  has := fun q hq => by
    obtain ⟨j, hj⟩ := List.mem_iff_getElem?.mp hq
    obtain ⟨hi, hx⟩ := List.getElem?_eq_some_iff.mp h
    by_cases e : i = j
    · subst e
      rw [List.getElem?_set_self hi] at hj
      cases hj
      exact upd_same
    · rw [List.getElem?_set_ne e] at hj
      have ne : q.1 ≠ p := fun z => by
        have h1 : (L.map (·.1))[i]? = some p := by rw [List.getElem?_map, h]; rfl
        have h2 : (L.map (·.1))[j]? = some p := by rw [List.getElem?_map, hj]; exact congrArg some z
        have hil : i < (L.map (·.1)).length := by simpa using hi
        exact e ((List.getElem?_inj hil o.dis).mp (h1.trans h2.symm))
      rw [upd_ne ne]
      exact o.has q (List.mem_of_getElem? hj)
theorem Own.sub {L' : List (Addr × List V)} (o : Own B L H) (s : L'.Sublist L) : Own B L' H := ⟨o.nod, o.ex, fun q h => o.off q (s.subset h), o.dis.sublist (s.map _), fun q h => o.has q (s.subset h)⟩
theorem Own.drop1 {q : Addr × List V} (o : Own B (q :: L) H) : Own B L H := o.sub (List.sublist_cons_self _ _)
theorem Own.drop2 {q r : Addr × List V} (o : Own B (r :: q :: L) H) : Own B (r :: L) H := o.sub ((List.sublist_cons_self _ _).cons₂ _)
theorem Own.perm {L' : List (Addr × List V)} (o : Own B L H) (s : L'.Perm L) : Own B L' H := ⟨o.nod, o.ex, fun q h => o.off q (s.mem_iff.mp h), (s.map _).nodup_iff.mpr o.dis, fun q h => o.has q (s.mem_iff.mp h)⟩
/-- all of it is the base from here on -/
theorem Own.base (o : Own B L H) : Own H [] H := have := o.nod; Own.nil
theorem Own.keep (o : Own B L H) [Nod B] : Fg B H B := fg_same o.ex
theorem Own.ret (o : Own B L H) [Nod B] (i : Nat) (h : L[i]? = some (p, xs)) : Fg B H (upd B p (.lst xs)) := fg_newL (o.offI i h) o.ex (o.atI i h)
/-- within a longer life: what was one's own is part of the base of another -/
theorem Own.into {B2 : Hp} {M : List (Addr × List V)} (o : Own B L H) (o2 : Own H M B2) : Own B L B2 := o.any o2.ex o2.nod
/-! ### a list that is handed in and changed -/
def del (H : Hp) (a : Addr) : Hp := fun b => if b = a then none else H b
theorem del_ex : Ex (del H a) H := fun b o h => by
  unfold del at h
  split at h
  · cases h
  · exact h
theorem del_at : del H a a = none := if_pos rfl
theorem del_ne {b : Addr} (h : b ≠ a) : del H a b = H b := if_neg h
theorem del_sq {r : Addr} (h : r ≠ a) (s : SqL K H r xs) : SqL K (del H a) r xs := by
  rcases s with (s | ⟨ob, s⟩) | s
  · exact .inl (.inl (by rw [del_ne h]; exact s))
  · exact .inl (.inr ⟨ob, by rw [del_ne h]; exact s⟩)
  · exact .inr s
theorem Own.enter [n : Nod H] (h : H a = some (.lst xs)) : Own (del H a) [(a, xs)] H :=
  ⟨n, del_ex, fun q hq => by rw [List.mem_singleton.mp hq]; exact del_at, by simp, fun q hq => by rw [List.mem_singleton.mp hq]; exact h⟩
theorem Own.exit [Nod H] (o : Own (del H a) L H') (h : H a = some (.lst xs)) (i : Nat) (hi : L[i]? = some (a, ys)) : Fg H H' (upd H a (.lst ys)) :=
  fg_mutL h (fun b u hb hu => o.ex b u (by rw [del_ne hb]; exact hu)) (o.atI i hi)
theorem Own.exitN [Nod H] (o : Own (del H a) L H') (h : H a = some (.lst xs)) (i j : Nat) (hi : L[i]? = some (a, ys)) (hj : L[j]? = some (p, zs)) (ne : p ≠ a) : Fg H H' (upd (upd H a (.lst ys)) p (.lst zs)) :=
  fg_mut_newL h (by have := o.offI j hj; rw [del_ne ne] at this; exact this) (fun b u hb hu => o.ex b u (by rw [del_ne hb]; exact hu)) (o.atI i hi) (o.atI j hj)
theorem Own.ne (o : Own B L H) (i j : Nat) (hi : L[i]? = some (p, xs)) (hj : L[j]? = some (a, ys)) (h : i ≠ j) : p ≠ a := fun z => by
  have h1 : (L.map (·.1))[i]? = some p := by rw [List.getElem?_map, hi]; rfl
  have h2 : (L.map (·.1))[j]? = some p := by rw [List.getElem?_map, hj]; exact congrArg some z.symm
  have hil : i < (L.map (·.1)).length := by have := (List.getElem?_eq_some_iff.mp hi).1; simpa using this
  exact h ((List.getElem?_inj hil o.dis).mp (h1.trans h2.symm))
theorem Own.neB (o : Own B L H) (i : Nat) (hi : L[i]? = some (p, xs)) {u : HO} (h : B a = some u) : a ≠ p := fun z => by rw [z, o.offI i hi] at h; cases h
end
end Px
set_option Elab.async false
set_option linter.all false
set_option maxRecDepth 100000
set_option maxHeartbeats 4000000
/-! list(enumerate(xs)), xs a list: after the model of the kit's list(d.items()) -/
namespace PySem.W
open PySem PySem.Calls PyProof.Rows PyProof.V PySem.Spec
theorem enl_no_len : typeLookup (.type "enumerate") "__len__" = pure none := am_miss_of_fast (by decide +kernel)
theorem enl_no_hint : typeLookup (.type "enumerate") "__length_hint__" = pure none := am_miss_of_fast (by decide +kernel)
structure EnG (items : Array Value) (lo : Addr) (h : Heap) (as : List Addr) : Prop where
  rise : as.Pairwise (· < ·)
  above : ∀ a ∈ as, lo < a
  pairs : ∀ (j : Nat) (a : Addr), as[j]? = some a → ∃ (hj : j < items.size) (tk : Nat), h.get? a = some { cls := .type "tuple", data := .seq #[.int j tk, items[j]] }
theorem EnG.there {items : Array Value} {lo : Addr} {h : Heap} {as : List Addr} (g : EnG items lo h as) {a : Addr} (ha : a ∈ as) : a < h.objs.size := by
  obtain ⟨j, hj⟩ := List.mem_iff_getElem?.mp ha
  obtain ⟨_, _, e⟩ := g.pairs j a hj
  exact Heap.lt_size e
def EnSt (h : Heap) (e it l S : Addr) (i : Nat) (items : Array Value) : Prop :=
  h.IsListIter it l i ∧ h.IsList l items ∧ ((∃ old, IsEnum h e it i old) ∨ ∃ old T f oT, IsEnumHeld h e it i old T f ∧ h.get? T = some oT ∧ T ≠ e ∧ T ≠ it ∧ T ≠ S)
theorem EnSt.keep {h h' : Heap} {e it l S : Addr} {i : Nat} {items : Array Value} (st : EnSt h e it l S i items) (hk : ∀ b o, b ≠ S → h.get? b = some o → h'.get? b = some o) (h1 : e ≠ S) (h2 : it ≠ S) (h3 : l ≠ S) : EnSt h' e it l S i items := by
  obtain ⟨hit, hl, he⟩ := st
  refine ⟨hit.at fun o x => hk _ o h2 x, hl.at fun o x => hk _ o h3 x, ?_⟩
  rcases he with ⟨old, he⟩ | ⟨old, T, f, oT, he, hT, r1, r2, r3⟩
  · exact .inl ⟨old, hk _ _ h1 he⟩
  · exact .inr ⟨old, T, f, oT, hk _ _ h1 he, hk _ _ r3 hT, r1, r2, r3⟩
section
variable {prog : Program} {w : World} {A : Around} {E : Value → Shared → Prop} {s : Shared}
theorem en_item {e it l S : Addr} {i : Nat} {items : Array Value} {Q : Option Value → Shared → Prop} (st : EnSt s.heap e it l S i items) (hS : S < s.heap.objs.size) (hei : e ≠ it) (hle : l ≠ e) (hli : l ≠ it) (hlt : i < items.size)
    (hQ : ∀ h' tk, EnSt h' e it l S (i + 1) items → (∃ t, h'.get? s.heap.objs.size = some { cls := .type "tuple", data := .seq #[.int i t, items[i]] }) →
      (∀ b o, b ≠ e → b ≠ it → s.heap.get? b = some o → h'.get? b = some o) → Q (some (.ref s.heap.objs.size)) { s with heap := h', toks := tk }) :
    wpAny (model prog w) A (pyNext (.ref e)) Q E s := by
  obtain ⟨hit, hl, he⟩ := st
  have ex := Array.getElem?_eq_getElem hlt
  have ec : ((i + 1 : Nat) : Int) = (i : Int) + 1 := by omega
  have nit : s.heap.objs.size ≠ it := let ⟨_, x, _⟩ := hit; Nat.ne_of_gt (Heap.lt_size x)
  rcases he with ⟨old, he⟩ | ⟨old, T, f, oT, he, hT, r1, r2, r3⟩
  · refine wpAny_pyNext_enum_item he hit hl ex hei fun h' ho hit' hT hsz hk => ?_
    exact hQ h' (s.toks + 1) ⟨hit', hl.at fun o x => hk l o hle hli x, .inr ⟨_, s.heap.objs.size, false, _, (by rw [ec]; exact ho), hT, Nat.ne_of_gt (Heap.lt_size he), nit, Nat.ne_of_gt hS⟩⟩ ⟨_, hT⟩ hk
  · refine wpAny_pyNext_enum_item_held he hT r1 r2 hit hl ex hei fun h' ho hit' hT' hsz hk => ?_
    exact hQ h' (s.toks + 1) ⟨hit', hl.at fun o x => hk l o hle hli x, .inr ⟨old, T, true, oT, (by rw [ec]; exact ho), hk _ _ r1 r2 hT, r1, r2, r3⟩⟩ ⟨_, hT'⟩ hk
theorem en_done {e it l S : Addr} {i : Nat} {items : Array Value} {Q : Option Value → Shared → Prop} (hh : A.handled = none) (st : EnSt s.heap e it l S i items) (hge : items.size ≤ i)
    (hQ : ∀ h', Heap.ExtBut it s.heap h' → Q none { s with heap := h' }) : wpAny (model prog w) A (pyNext (.ref e)) Q E s := by
  obtain ⟨hit, hl, he⟩ := st
  have hx : items[i]? = none := Array.getElem?_eq_none hge
  rcases he with ⟨old, he⟩ | ⟨old, T, f, oT, he, hT, r1, r2, r3⟩
  · exact wpAny_pyNext_enum_end hh he hit hl hx hQ
  · exact wpAny_pyNext_enum_end_held hh he hit hl hx hQ
end
section
variable {prog : Program} {w : World} {A : Around} {s : Shared} {R : Result → Shared → Prop} {items : Array Value}
theorem en_loop {S e it l : Addr} (hh : A.handled = none) (heS : e < S) (hiS : it < S) (hlS : l ≠ S) (hei : e ≠ it) (hle : l ≠ e) (hli : l ≠ it) (hn : items.size ≤ sizeLine) (res : Value) {h₁ : Heap}
    (hR : ∀ h' tk acc c as, (∀ b o, b ≠ S → b ≠ e → b ≠ it → h₁.get? b = some o → h'.get? b = some o) → h'.get? S = some { cls := .type "list", dict := none, data := .seq acc c, slots := #[] } → as.length = items.size → EnG items S h' as →
      acc.toList = as.map Value.ref → R (.ok (.ret res)) { s with heap := h', toks := tk }) :
    ∀ (k i : Nat) (h : Heap) (tk c : Nat) (acc : Array Value) (as : List Addr), items.size - i = k → i ≤ items.size → EnSt h e it l S i items → (∀ b o, b ≠ S → b ≠ e → b ≠ it → h₁.get? b = some o → h.get? b = some o) →
      h.get? S = some { cls := .type "list", dict := none, data := .seq acc c, slots := #[] } → acc.toList = as.map Value.ref → as.length = i → EnG items S h as →
      codeAny (model prog w) A (.builtin "list.extend.loop" ⟨[.ref S, .ref e, res], []⟩) R { s with heap := h, toks := tk } := by
  have hne : S ≠ e := Nat.ne_of_gt heS
  have hni : S ≠ it := Nat.ne_of_gt hiS
  intro k
  induction k with
  | zero =>
    intro i h tk c acc as hk hi hst hkeep hS hacc hal hG
    refine codeAny_builtin PySem.F.entry_extend_loop ?_
    rw [Around.under_plainId PySem.F.plain_extend_loop _]
    show wpAny _ A.in1 (pyNext (.ref e) >>= _) _ _ _
    refine wpAny_bind (en_done (s := { s with heap := h, toks := tk }) (A := A.in1) hh hst (by omega) fun h' he => ?_)
    refine wpAny_pure (hR h' tk acc c as (fun b o h1 h2 h3 x => he b o h3 (hkeep b o h1 h2 h3 x)) (he S _ hni hS) (by omega) ⟨hG.rise, hG.above, fun j a hj => ?_⟩ hacc)
    obtain ⟨hj', tk', e3⟩ := hG.pairs j a hj
    exact ⟨hj', tk', he a _ (Nat.ne_of_gt (Nat.lt_trans hiS (hG.above a (List.mem_of_getElem? hj)))) e3⟩
  | succ k ih =>
    intro i h tk c acc as hk hi hst hkeep hS hacc hal hG
    have hlt : i < items.size := by omega
    have hsz : acc.size = i := by rw [← Array.length_toList, hacc, List.length_map, hal]
    refine codeAny_builtin PySem.F.entry_extend_loop ?_
    rw [Around.under_plainId PySem.F.plain_extend_loop _]
    show wpAny _ A.in1 (pyNext (.ref e) >>= _) _ _ _
    refine wpAny_bind (en_item (s := { s with heap := h, toks := tk }) hst (Heap.lt_size hS) hei hle hli hlt fun h' tk' hst' ht hkp => ?_)
    dsimp only at ht hkp ⊢
    have hS' := hkp S _ hne hni hS
    have up : ∀ b o, b ≠ S → h'.get? b = some o → (h'.update S (Obj.mapSeq (·.push (Value.ref h.objs.size)))).get? b = some o := fun b o hb x => (Heap.get?_update_other _ _ (Ne.symm hb)).trans x
    have hSl : S < h.objs.size := Heap.lt_size hS
    show wpAny _ A.in1 (updateSeq S (·.push (Value.ref h.objs.size)) >>= _) _ _ _
    refine wpAny_bind ?_
    refine wpAny_updateSeq hS' rfl (wpAny_pure ⟨plainId_quiet PySem.F.plain_extend_loop _, ih (i + 1) _ tk' _ (acc.push (Value.ref h.objs.size)) (as ++ [h.objs.size]) (by omega) hlt (hst'.keep up (Ne.symm hne) (Ne.symm hni) hlS)
      (fun b o h1 h2 h3 x => up b o h1 (hkp b o h2 h3 (hkeep b o h1 h2 h3 x))) (Heap.get?_update_self _ hS' rfl) (by rw [Array.toList_push, hacc, List.map_append]; rfl) (by rw [List.length_append, hal]; rfl) ⟨?_, ?_, ?_⟩⟩) (by rw [hsz]; omega) (by show (acc.push (Value.ref h.objs.size)).size ≤ sizeLine + 1; rw [Array.size_push, hsz]; omega)
    · refine List.pairwise_append.mpr ⟨hG.rise, List.pairwise_singleton _ _, fun a ha b hb => ?_⟩
      rw [List.mem_singleton.mp hb]
      exact hG.there ha
    · intro a ha
      rcases List.mem_append.mp ha with ha | ha
      · exact hG.above a ha
      · rw [List.mem_singleton.mp ha]; exact hSl
    · intro j b hj
      rcases Nat.lt_trichotomy j as.length with h1 | h1 | h1
      · rw [List.getElem?_append_left h1] at hj
        obtain ⟨hj', tk2, e3⟩ := hG.pairs j b hj
        have hb := hG.above b (List.mem_of_getElem? hj)
        exact ⟨hj', tk2, up b _ (Nat.ne_of_gt hb) (hkp b _ (Nat.ne_of_gt (Nat.lt_trans heS hb)) (Nat.ne_of_gt (Nat.lt_trans hiS hb)) e3)⟩
      · subst h1
        have hb : h.objs.size = b := by simpa using hj
        subst hb
        obtain ⟨t, ht⟩ := ht
        exact ⟨by omega, t, by subst hal; exact up _ _ (Nat.ne_of_gt hSl) ht⟩
      · have hnone : (as ++ [h.objs.size])[j]? = none := List.getElem?_eq_none (by rw [List.length_append, List.length_singleton]; omega)
        rw [hnone] at hj; cases hj
end
section
variable {prog : Program} {w : World} {A : Around} {E : Value → Shared → Prop} {s : Shared} {e it l : Addr} {items : Array Value}
theorem en_hint (hT : s.TypeIs (.ref e) "enumerate") {Q : Bool → Shared → Prop} (h : Q true s) : wpAny (model prog w) A (Builtin.List.listLengthHint (.ref e)) Q E s := by
  unfold Builtin.List.listLengthHint
  refine wpAny_bind (wpAny_specialOf hT enl_no_len ?_)
  refine wpAny_bind (wpAny_specialOf hT enl_no_hint ?_)
  exact wpAny_pure h
theorem en_extend {R : Result → Shared → Prop} (hh : A.handled = none) {old : Value} (he : IsEnum s.heap e it 0 old) (hit : s.heap.IsListIter it l 0) (hl : s.heap.IsList l items) (hei : e ≠ it) (hle : l ≠ e) (hli : l ≠ it) (S : Addr) (heS : e < S) (hiS : it < S) (hlS : l ≠ S) (res : Value) (c₀ : Nat) (hS : s.heap.get? S = some { cls := .type "list", data := .seq #[] c₀ })
    (hR : ∀ h' tk acc c as, (∀ b o, b ≠ S → b ≠ e → b ≠ it → s.heap.get? b = some o → h'.get? b = some o) → h'.get? S = some { cls := .type "list", dict := none, data := .seq acc c, slots := #[] } → as.length = items.size → EnG items S h' as →
      acc.toList = as.map Value.ref → R (.ok (.ret res)) { s with heap := h', toks := tk }) (hn : items.size ≤ sizeLine) :
    wpAny (model prog w) A.in1 (Builtin.List.listExtendWith (.ref S) (.ref e) res)
      (fun fin s' => match fin with | .done f => R (.ok f) s' | .again c' => c'.quiet = true ∧ codeAny (model prog w) A c' R s') (fun x s' => R (.error x) s') s := by
  have key : ∀ (h : Heap) (c₁ tk : Nat), (∀ b o, b ≠ S → s.heap.get? b = some o → h.get? b = some o) →
      h.get? S = some { cls := .type "list", data := .seq #[] c₁ } → codeAny (model prog w) A (.builtin "list.extend.loop" ⟨[.ref S, .ref e, res], []⟩) R { s with heap := h, toks := tk } := by
    intro h c₁ tk hk hS₁
    refine en_loop (items := items) (s := s) (h₁ := s.heap) hh heS hiS hlS hei hle hli hn res (fun h' tk' acc c as hk' hS' hl hG hacc => hR h' tk' acc c as hk' hS' hl hG hacc)
      items.size 0 h tk c₁ #[] [] (Nat.sub_zero _) (Nat.zero_le _) ⟨hit.at fun o x => hk _ o (Nat.ne_of_lt hiS) x, hl.at fun o x => hk _ o hlS x, .inl ⟨old, hk _ _ (Nat.ne_of_lt heS) he⟩⟩ (fun b o hb _ _ x => hk b o hb x) hS₁ rfl rfl
      ⟨List.Pairwise.nil, (fun _ ha => nomatch ha), (fun j a hj => by simp at hj)⟩
  have hTy : s.TypeIs (.ref e) "enumerate" := ⟨_, he, rfl⟩
  unfold Builtin.List.listExtendWith
  refine wpAny_bind (wpAny_typeOf (T := "enumerate") hTy ?_)
  have h1 : Builtin.List.listSameRef (.ref S) (.ref e) = false := by simp [Builtin.List.listSameRef, Nat.ne_of_gt heS]
  have h2 : (Value.type "enumerate" == Value.type "list") = false := by decide
  have h3 : (Value.type "enumerate" == Value.type "tuple") = false := by decide
  simp only [h1, h2, h3, Bool.or_false, Bool.false_eq_true, if_false]
  refine wpAny_bind (wpAny_pyIter_enum he ?_)
  refine wpAny_bind (wpAny_holding (en_hint hTy ?_))
  simp only [Bool.true_or, if_true]
  refine wpAny_bind (wpAny_rule ?_)
  refine wpAny_bind ?_
  show wpAny _ _ (updateSeq S (·.push .none) >>= fun _ => updateSeq S (·.pop)) _ _ _
  refine wpAny_bind (wpAny_updateSeq hS rfl ?_)
  have hS₂ := Heap.get?_update_self (Obj.mapSeq (·.push Value.none)) hS rfl
  refine wpAny_updateSeq (hz := by seq_fits) hS₂ rfl ?_
  have hS₃ := Heap.get?_update_self (Obj.mapSeq (·.pop)) hS₂ rfl
  refine wpAny_pure ⟨plainId_quiet PySem.F.plain_extend_loop _, key _ _ _ (fun b o hb x => ?_) hS₃⟩
  exact (Heap.get?_update_other _ _ (Ne.symm hb)).trans ((Heap.get?_update_other _ _ (Ne.symm hb)).trans x)
theorem en_init {R : Result → Shared → Prop} (hh : A.handled = none) {old : Value} (he : IsEnum s.heap e it 0 old) (hit : s.heap.IsListIter it l 0) (hl : s.heap.IsList l items) (hei : e ≠ it) (hle : l ≠ e) (hli : l ≠ it) (S : Addr) (heS : e < S) (hiS : it < S) (hlS : l ≠ S) (hS : s.heap.get? S = some { cls := .type "list", data := .seq #[] })
    (hR : ∀ h' tk acc c as, (∀ b o, b ≠ S → b ≠ e → b ≠ it → s.heap.get? b = some o → h'.get? b = some o) → h'.get? S = some { cls := .type "list", dict := none, data := .seq acc c, slots := #[] } → as.length = items.size → EnG items S h' as →
      acc.toList = as.map Value.ref → R (.ok (.ret .none)) { s with heap := h', toks := tk }) (hn : items.size ≤ sizeLine) :
    wpAny (model prog w) A.in1 (Builtin.«list.__init__» ⟨[.ref S, .ref e], []⟩)
      (fun fin s' => match fin with | .done f => R (.ok f) s' | .again c' => c'.quiet = true ∧ codeAny (model prog w) A c' R s') (fun x s' => R (.error x) s') s := by
  show wpAny _ _ (do let old ← Builtin.List.listItems (.ref S); Builtin.List.listUpdate (.ref S) (fun _ => #[]); letGo old.toList.reverse; Builtin.List.listExtendWith (.ref S) (.ref e) .none) _ _ s
  refine wpAny_bind ?_
  unfold Builtin.List.listItems
  refine wpAny_bind (wpAny_seqItems hS rfl (wpAny_pure ?_))
  show wpAny _ _ (updateSeq S (fun _ => #[]) >>= fun _ => letGo (#[] : Array Value).toList.reverse >>= fun _ => Builtin.List.listExtendWith (.ref S) (.ref e) .none) _ _ s
  refine wpAny_bind (wpAny_updateSeq hS rfl ?_)
  have hS₂ := Heap.get?_update_self (Obj.mapSeq (fun _ => (#[] : Array Value))) hS rfl
  have oth : ∀ b o, b ≠ S → s.heap.get? b = some o → (s.heap.update S (Obj.mapSeq (fun _ => (#[] : Array Value)))).get? b = some o :=
    fun b o hb x => (Heap.get?_update_other _ _ (Ne.symm hb)).trans x
  refine wpAny_bind (wpAny_letGo ?_)
  refine en_extend hh (oth _ _ (Nat.ne_of_lt heS) he) (hit.at fun o x => oth _ o (Nat.ne_of_lt hiS) x) (hl.at fun o x => oth _ o hlS x) hei hle hli S heS hiS hlS .none _ hS₂ (fun h' tk acc c as hk hS' hl hG hacc => ?_) hn
  exact hR h' tk acc c as (fun b o h1 h2 h3 x => hk b o h1 h2 h3 (oth b o h1 x)) hS' hl hG hacc
theorem en_call {Q : Value → Shared → Prop} (hh : A.handled = none) {old : Value} (he : IsEnum s.heap e it 0 old) (hit : s.heap.IsListIter it l 0) (hl : s.heap.IsList l items) (hei : e ≠ it) (hle : l ≠ e) (hli : l ≠ it) (hn : items.size ≤ sizeLine)
    (hQ : ∀ h' tk acc c as, (∀ b o, b ≠ e → b ≠ it → s.heap.get? b = some o → h'.get? b = some o) → h'.get? s.heap.objs.size = some { cls := .type "list", dict := none, data := .seq acc c, slots := #[] } → as.length = items.size → EnG items s.heap.objs.size h' as →
      acc.toList = as.map Value.ref → Q (.ref s.heap.objs.size) { s with heap := h', toks := tk }) :
    wpAny (model prog w) A (call (.type "list") [.ref e]) Q E s := by
  refine callType_codes (Q₁ := fun obj s₁ => obj = .ref s.heap.objs.size ∧ s₁ = { s with heap := s.heap.push { cls := .type "list", data := .seq #[] } }) PySem.F.called_list (PySem.F.typeCall_list_1 _) PySem.F.entry_list_init
    (code_list_new _ ⟨rfl, rfl⟩) fun obj s₁ h₁ => ?_
  obtain ⟨rfl, rfl⟩ := h₁
  have hS : (s.heap.push { cls := .type "list", data := .seq #[] }).get? s.heap.objs.size = some { cls := .type "list", data := .seq #[] } := Heap.get?_push_size _ rfl
  have h1 : e < s.heap.objs.size := Heap.lt_size he
  have h2 : it < s.heap.objs.size := let ⟨_, ho, _⟩ := hit; Heap.lt_size ho
  have h3 : l < s.heap.objs.size := let ⟨_, ho, _⟩ := hl; Heap.lt_size ho
  refine ⟨⟨_, hS, rfl⟩, PySem.F.args_list_init_2 _ _, en_init (A := A.in1) hh (Heap.get?_push_of_some _ he) (hit.at fun o x => Heap.get?_push_of_some _ x) (hl.at fun o x => Heap.get?_push_of_some _ x) hei hle hli _ h1 h2 (Nat.ne_of_lt h3) hS (fun h' tk acc c as hk hS' hl hG hacc => ?_) hn⟩
  exact ⟨rfl, hQ h' tk acc c as (fun b o x1 x2 x => hk b o (Nat.ne_of_lt (Heap.lt_size x)) x1 x2 (Heap.get?_push_of_some _ x)) hS' hl hG hacc⟩
end
end PySem.W
namespace Px
open PySem L2 PySem.W
/-- pairs (j, x) laid at as -/
def layT (H : Hp) : Nat → List Addr → List V → Hp
  | j, a :: as, x :: xs => upd (layT H (j + 1) as xs) a (.tup [.int (j : Int), x])
  | _, _, _ => H
theorem layT_off {H : Hp} {b : Addr} : ∀ {as : List Addr} {xs : List V} {j : Nat}, b ∉ as → layT H j as xs b = H b
  | [], _, _, _ => rfl
  | _ :: _, [], _, _ => rfl
  | a :: as, x :: xs, j, h => by
    rw [List.mem_cons, not_or] at h
    rw [layT, upd_ne h.1, layT_off h.2]
theorem layT_at {H : Hp} {b : Addr} {x : V} : ∀ {as : List Addr} {xs : List V} {j i : Nat}, as.Nodup → as[i]? = some b → xs[i]? = some x → layT H j as xs b = some (.tup [.int ((j + i : Nat) : Int), x])
  | [], _, _, i, _, h, _ => by simp at h
  | _ :: _, [], _, i, _, _, h => by simp at h
  | a :: as, y :: xs, j, 0, _, h1, h2 => by
    simp at h1 h2
    subst h1 h2
    rw [layT, upd_same]; rfl
  | a :: as, y :: xs, j, i + 1, nd, h1, h2 => by
    simp at h1 h2
    have hb : b ≠ a := fun z => (List.nodup_cons.mp nd).1 (z ▸ List.mem_of_getElem? h1)
    rw [layT, upd_ne hb, layT_at (List.nodup_cons.mp nd).2 h1 h2]
    rw [show j + 1 + i = j + (i + 1) by omega]
theorem layT_tup {H : Hp} {b : Addr} {o : HO} : ∀ {as : List Addr} {xs : List V} {j : Nat}, layT H j as xs b = some o → H b = some o ∨ ∃ i x, as[i]? = some b ∧ xs[i]? = some x ∧ o = .tup [.int ((j + i : Nat) : Int), x]
  | [], _, _, h => .inl h
  | _ :: _, [], _, h => .inl h
  | a :: as, y :: xs, j, h => by
    by_cases hb : b = a
    · subst hb
      rw [layT, upd_same] at h
      cases h
      exact .inr ⟨0, y, rfl, rfl, rfl⟩
    · rw [layT, upd_ne hb] at h
      rcases layT_tup h with h | ⟨i, x, h1, h2, h3⟩
      · exact .inl h
      · exact .inr ⟨i + 1, x, by simpa using h1, by simpa using h2, by rw [h3, show j + 1 + i = j + (i + 1) by omega]⟩
/-- list(enumerate(e)) -/
def tEnumL (K : PySem.W.Frag) (ta : TA) : TE := fun σ H Q => ta σ H fun vs H1 => ∃ a xs, vs = [.ref a] ∧ SqL K H1 a xs ∧
  ∀ l (as : List Addr), H1 l = none → l ∉ as → as.Nodup → (∀ b ∈ as, H1 b = none) → as.length = xs.length → Q (.ref l) (upd (layT H1 0 as xs) l (.lst (as.map V.ref)))
theorem vals_refs : ∀ {as : List Addr}, Vals (as.map V.ref) (as.map Value.ref)
  | [] => .nil
  | _ :: _ => .cons rfl vals_refs
theorem pe_listEnum {X : Cx} {e : Expr} {ta : TA} {p1 p2 pos1 pos2 : Pos} (hg1 : Gl X "list") (hm1 : X.mg "list" = none) (hg2 : Gl X "enumerate") (hm2 : X.mg "enumerate" = none) (hc : X.calm = true) (ha : PA X [e] ta) (hs : starEach [e] X.env = [(false, eval e X.env)] := by rfl)
    (hs2 : starEach [.Call (.Name "enumerate" p2) [e] [] pos2] X.env = [(false, eval (.Call (.Name "enumerate" p2) [e] [] pos2) X.env)] := by rfl) :
    PE X (.Call (.Name "list" p1) [.Call (.Name "enumerate" p2) [e] [] pos2] [] pos1) (tEnumL X.K ta) := by
  refine ⟨fun pins s σ H Q I h => ?_⟩
  refine wpAny_Call_Name_kw (ld_blt I hg1 hm1 (show bootBuiltins "list" = some (.type "list") by decide +kernel) ?_ (by decide) (by decide))
  refine PyProof.Rows.callWith_type1 ?_ hs2 rfl
  rw [hs2]
  refine Calls.spliced_cons (thn (Q := fun v s1 => wpAny (model X.prog X.w) X.A (call (.type "list") [v]) (EP X pins σ Q) X.xe s1) ?_ fun v s1 h1 => Calls.spliced_nil h1)
  refine wpAny_Call_Name_kw (ld_blt I hg2 hm2 (show bootBuiltins "enumerate" = some (.type "enumerate") by decide +kernel) ?_ (by decide) (by decide))
  refine PyProof.Rows.callWith_type1 (thn (ha.run pos2 pins s σ H _ I h) fun us s1 ⟨vs, H1, I1, r1, q1⟩ => ?_) hs rfl
  obtain ⟨a, xs, ex, hq, q⟩ := q1
  subst ex
  cases r1 with
  | cons r rr =>
    cases rr
    cases r
    obtain ⟨its, rv, p', hz⟩ := I1.list hq
    refine call_enumerate_list p'.isList fun h' he hit hsz hk => ?_
    have hal : a < s1.heap.objs.size := let ⟨_, ho, _⟩ := p'.isList; Heap.lt_size ho
    refine en_call (s := { s1 with heap := h' }) (items := its.toArray) (I1.ok.hd hc) he hit (p'.isList.at fun o x => hk _ o x) (Nat.succ_ne_self _) (Nat.ne_of_lt (Nat.lt_succ_of_lt hal)) (Nat.ne_of_lt hal) (by rw [List.size_toArray, ← rv.length]; exact hz) fun h2 tk acc c as hk2 hS hlen hG hacc => ?_
    have hlo : ∀ b ∈ as, s1.heap.objs.size ≤ b := fun b hb => by
      have h1 := hG.above b hb
      have h1 : h'.objs.size < b := h1
      rw [hsz] at h1
      exact Nat.le_of_lt (Nat.lt_trans (Nat.lt_add_of_pos_right (by decide)) h1)
    have hS' : h2.get? (s1.heap.objs.size + 2) = some { cls := .type "list", dict := none, data := .seq acc c, slots := #[] } := by rw [← hsz]; exact hS
    have hnd : as.Nodup := hG.rise.imp fun h => Nat.ne_of_lt h
    have hla : h'.objs.size ∉ as := fun z => Nat.lt_irrefl _ (hG.above _ z)
    have hlen2 : as.length = xs.length := by rw [hlen, List.size_toArray, rv.length]
    have hkeep : ∀ b u, s1.heap.get? b = some u → h2.get? b = some u := fun b u x => hk2 b u (Nat.ne_of_lt (Nat.lt_succ_of_lt (Heap.lt_size x))) (Nat.ne_of_lt (Heap.lt_size x)) (hk b u x)
    have hln : H1 h'.objs.size = none := I1.hok.fresh (by rw [hsz]; exact Nat.le_add_right _ _)
    have han : ∀ b ∈ as, H1 b = none := fun b hb => I1.hok.fresh (hlo b hb)
    have old : ∀ b o, H1 b = some o → (upd (layT H1 0 as xs) h'.objs.size (.lst (as.map V.ref))) b = some o := fun b o x => by
      rw [upd_ne (ne_of_none x hln), layT_off (fun z => by rw [han b z] at x; cases x)]
      exact x
    have u : Un X.fs [] H1 (upd (layT H1 0 as xs) h'.objs.size (.lst (as.map V.ref))) s1.heap h2 := {
      keep := fun b u q _ _ _ => hkeep b u q
      slot := fun b u q _ _ _ => ⟨u.slots, hkeep b u q⟩
      free := fun b u q n _ => by
        rw [upd_ne (Nat.ne_of_lt (Nat.lt_of_lt_of_le (Heap.lt_size q) (by rw [hsz]; exact Nat.le_add_right _ _))), layT_off (fun z => Nat.lt_irrefl _ (Nat.lt_of_lt_of_le (Heap.lt_size q) (hlo b z)))]
        exact n
      there := fun b u q _ => ⟨u, hkeep b u q⟩
      tups := fun b xs q => old b _ q
      frzs := fun b u xs q => old b _ q
      tbls := fun b ps q => ⟨#[], by rw [old b _ q]; simp⟩ }
    have hok : HOk X.prog X.w (upd (layT H1 0 as xs) h'.objs.size (.lst (as.map V.ref))) h2 := fun b o x => by
      by_cases hb : b = h'.objs.size
      · subst hb
        rw [upd_same] at x
        cases x
        refine ⟨by rw [List.length_map, hlen2]; exact hz, as.map Value.ref, c, vals_refs, ?_⟩
        rw [← hacc]
        exact hS
      · rw [upd_ne hb] at x
        rcases layT_tup x with x | ⟨i, y, h1, h2', rfl⟩
        · exact (I1.hok b o x).stay (fun c v _ q => hkeep c v q) (fun c q => old c _ q) fun c xs q => old c _ q
        · obtain ⟨hj, t, ht⟩ := hG.pairs i b h1
          obtain ⟨w, hw, rw'⟩ := rv.get h2'
          have hwi : its.toArray[i] = w := by
            have := Array.getElem?_eq_getElem hj
            have h3 : its.toArray[i]? = some w := by simpa using hw
            rw [this] at h3
            exact Option.some.inj h3
          rw [hwi] at ht
          rw [Nat.zero_add]
          exact ⟨by show 2 ≤ sizeLine; decide, [.int (i : Nat) t, w], .cons ⟨_, rfl⟩ (.cons rw' .nil), ⟨_, ht, rfl, _, rfl⟩⟩
    exact ⟨.ref h'.objs.size, _, I1.un (t' := tk) u hok, rfl, q _ as hln hla hnd han hlen2⟩
end Px
set_option Elab.async false
set_option linter.all false
set_option maxRecDepth 100000
set_option maxHeartbeats 4000000
namespace Px
open PySem L2
section
variable {K : PySem.W.Frag} {σ : L2.St} {H : Hp} {ta tb tc te tl : TE} {t u : TT} {x y z v : V} {D : Ends} {s1 s2 s3 tu : TS} {n : Nat} {i j k : Int} {P R : Prop} {Q : VK}
theorem w_c (h : Q v H) : tC v σ H Q := h
theorem w_v' (e : σ[n]? = some (some v)) (h : Q v H) : tVar n σ H Q := ⟨v, e, h⟩
theorem r_add (h : Q (.int (i + j)) H) : oAdd (.int i) (.int j) H Q := ⟨_, _, rfl, rfl, h⟩
theorem r_sub (h : Q (.int (i - j)) H) : oSub (.int i) (.int j) H Q := ⟨_, _, rfl, rfl, h⟩
theorem r_mul (c : CMulW i j) (h : Q (.int (i * j)) H) : oMul (.int i) (.int j) H Q := ⟨_, _, rfl, rfl, c, h⟩
theorem r_div (c : CDivW i j) (h : Q (.int (i / j)) H) : oDiv (.int i) (.int j) H Q := ⟨_, _, rfl, rfl, c, h⟩
theorem r_mod (c : 0 < j) (h : Q (.int (i % j)) H) : oMod (.int i) (.int j) H Q := ⟨_, _, rfl, rfl, c, h⟩
theorem r_pow (c : CPow i j) (h : Q (.int (i ^ j.toNat)) H) : oPow (.int i) (.int j) H Q := ⟨_, _, rfl, rfl, c, h⟩
theorem r_lt (h : Q (.bl (decide (i < j))) H) : oLt (.int i) (.int j) H Q := ⟨_, _, rfl, rfl, h⟩
theorem r_le (h : Q (.bl (decide (i ≤ j))) H) : oLe (.int i) (.int j) H Q := ⟨_, _, rfl, rfl, h⟩
theorem r_gt (h : Q (.bl (decide (j < i))) H) : oGt (.int i) (.int j) H Q := ⟨_, _, rfl, rfl, h⟩
theorem r_ge (h : Q (.bl (decide (j ≤ i))) H) : oGe (.int i) (.int j) H Q := ⟨_, _, rfl, rfl, h⟩
theorem r_min (h : Q (.int (if j < i then j else i)) H) : cMin [.int i, .int j] H Q := ⟨_, _, rfl, h⟩
theorem r_max (h : Q (.int (if j > i then j else i)) H) : cMax [.int i, .int j] H Q := ⟨_, _, rfl, h⟩
theorem r_len {p : Addr} {xs : List V} (s : SqL K H p xs) (h : Q (.int xs.length) H) : cLen K [.ref p] H Q := ⟨p, xs, rfl, .inl s, h⟩
theorem r_intB {b : Bool} (h : Q (.int (if b then 1 else 0)) H) : cInt [.bl b] H Q := .inr ⟨b, rfl, h⟩
theorem r_ix {p : Addr} {xs : List V} (s : SqL K H p xs) (e : atI xs i = some v) (h : Q v H) : rIxL K (.ref p) (.int i) H Q := ⟨p, xs, i, v, rfl, rfl, s, e, h⟩
theorem w_sl {r : TO → TO → TE} {tl th : TO} {a : Addr} {xs : List V} {lo hi : Option Int} (h : Ev te σ H (.ref a)) (h1 : EvO tl σ H lo) (h2 : EvO th σ H hi) (hs : SqL K H a xs) (k : ∀ p, H p = none → Q (.ref p) (upd H p (.lst (cutV xs lo hi)))) : tSl (rSlL K) te tl th σ H Q := el_sl h h1 h2 hs Q k
theorem q_retN {s : TS} (h : s D σ H) : s D σ H := h
theorem q_asg {g : TG} (h : te σ H fun x H1 => g x σ H1 fun σ2 H2 => s2 D σ2 H2) : tSeq (tAsg te g) s2 D σ H := h
theorem s_asg {g : TG} (h : te σ H fun x H1 => g x σ H1 D.nx) : tAsg te g D σ H := h
theorem w_rep1 {k : Int} {b : Bool} {a : Addr} (ha : H a = some (.lst [x])) (h : ∀ p, H p = none → Q (.ref p) (upd H p (.lst (if b then [x] else [])))) : rRep (.ref a) (.int (if b then 1 else 0)) H Q := by
  refine ⟨a, _, [x], rfl, rfl, ha, ?_, ?_, ?_, fun p hp => ?_⟩
  · cases b <;> simp
  · cases b <;> simp
  · cases b <;> simp <;> decide
  · have := h p hp
    cases b <;> simpa using this
/-- [te for i in range(k)], te may change things -/
theorem w_lcR {ta : TA} {k : Int} {vs : List Nat} (h : EvA ta σ H [.int k]) (hk : 0 ≤ k ∧ k < 2 ^ 60) (Pv : Addr → Nat → Hp → Prop) (h0 : ∀ D, H D = none → Pv D 0 (upd H D (.lst [])))
    (hw : ∀ x, wipe ((wipe σ vs).set n (some x)) vs = wipe σ vs) (hs : ∀ D (i : Nat) H', H D = none → (i : Int) < k → Pv D i H' → te ((wipe σ vs).set n (some (.int (i : Int)))) H' fun y H4 => ∃ acc, H4 D = some (.lst acc) ∧ acc.length < sizeLine ∧ Pv D (i + 1) (upd H4 D (.lst (acc ++ [y]))))
    (hd : ∀ D H', H D = none → Pv D k.toNat H' → Q (.ref D) H') : tLc (iRng1 ta) (gName n) tYes te vs σ H Q := h _ ⟨k, rfl, by omega, by omega, fun D hD =>
  lc_range (lo := 0) (n := k.toNat) (Pv D) (h0 D hD) (fun i H' hi hv => by
    show wipe ((wipe σ vs).set n (some (.int (0 + (i : Int))))) vs = wipe σ vs ∧ _
    rw [Int.zero_add]
    exact ⟨hw _, et_yes _ (iteT (hs D i H' hD (by omega) hv))⟩) (fun H' hv => hd D H' hD hv)⟩
/-- [te for x in xs if tt], te may change things -/
theorem w_lcL {a : Addr} {xs : List V} {vs : List Nat} (h : Ev tl σ H (.ref a)) (hx : SqL K H a xs) (Pv : Addr → Nat → Hp → Prop) (h0 : ∀ D, H D = none → Pv D 0 (upd H D (.lst []))) (hl : ∀ D i H', H D = none → Pv D i H' → SqL K H' a xs)
    (hw : ∀ x, wipe ((wipe σ vs).set n (some x)) vs = wipe σ vs) (hs : ∀ D (i : Nat) x H', H D = none → xs[i]? = some x → Pv D i H' → t ((wipe σ vs).set n (some x)) H' fun b H3 => if b = true then te ((wipe σ vs).set n (some x)) H3 fun y H4 => ∃ acc, H4 D = some (.lst acc) ∧ acc.length < sizeLine ∧ Pv D (i + 1) (upd H4 D (.lst (acc ++ [y]))) else Pv D (i + 1) H3)
    (hd : ∀ D H', H D = none → Pv D xs.length H' → Q (.ref D) H') : tLc (iList K tl) (gName n) t te vs σ H Q := h _ ⟨a, rfl, ⟨xs, hx⟩, fun D hD =>
  lc_list (xs := xs) (Pv D) (h0 D hD) (fun i H' _ hv => hl D i H' hD hv) (fun i x H' hi hv => ⟨hw x, hs D i x H' hD hi hv⟩) (fun H' hv => hd D H' hD hv)⟩
theorem szl {m : Nat} (h : m < 16000000) : m < sizeLine := Nat.lt_of_lt_of_le h (by decide)
/-- an if without an else: I holds behind it on both ways -/
theorem q_whenI (I : L2.St → Hp → Prop) (h : EvP t σ H P) (h1 : P → ∀ N : L2.St → Hp → Prop, (∀ σ' H', I σ' H' → N σ' H') → s1 { D with nx := N } σ H) (h2 : ¬ P → I σ H) (k : ∀ σ' H', I σ' H' → s3 D σ' H') : tSeq (tIfS t s1 tNext) s3 D σ H :=
  q_whenP h (fun p => h1 p _ k) fun p => k _ _ (h2 p)
theorem s_ifW (h : t σ H fun b H1 => if b = true then s1 D σ H1 else s2 D σ H1) : tIfS t s1 s2 D σ H := h
theorem q_ifW (h : t σ H fun b H1 => if b = true then s1 { D with nx := s3 D } σ H1 else s2 { D with nx := s3 D } σ H1) : tSeq (tIfS t s1 s2) s3 D σ H := h
theorem w_and {Q : Bool → Hp → Prop} (h : t σ H fun b H1 => if b = true then u σ H1 Q else Q false H1) : tAnd t u σ H Q := h
theorem w_or {Q : Bool → Hp → Prop} (h : t σ H fun b H1 => if b = true then Q true H1 else u σ H1 Q) : tOr t u σ H Q := h
theorem w_not {Q : Bool → Hp → Prop} (h : t σ H fun b H1 => Q (!b) H1) : tNot t σ H Q := h
theorem w_tst {Q : Bool → Hp → Prop} (h : te σ H fun v H1 => ∃ b, v = .bl b ∧ Q b H1) : tTest te σ H Q := h
theorem w_evT {b : Bool} {Q : Bool → Hp → Prop} (h : EvT t σ H b) (q : Q b H) : t σ H Q := h Q q
theorem by_dec {P A B : Prop} [Decidable P] (h1 : P → A) (h2 : ¬ P → B) : if decide P = true then A else B := by
  by_cases h : P
  · rw [decide_eq_true h]; exact iteT (h1 h)
  · rw [decide_eq_false h]; exact iteF (h2 h)
theorem q_par {i j : Nat} {ta : TA} {v w : V} (h : EvA ta σ H [v, w]) (k : s2 D ((σ.set i (some v)).set j (some w)) H) : tSeq (tPar i j ta) s2 D σ H := h _ ⟨v, w, rfl, k⟩
theorem q_parW {i j : Nat} {ta : TA} (h : ta σ H fun vs H1 => ∃ v w, vs = [v, w] ∧ s2 D ((σ.set i (some v)).set j (some w)) H1) : tSeq (tPar i j ta) s2 D σ H := h
theorem w_appR {a : Addr} {xs : List V} {t : TA} (ha : Ev ta σ H (.ref a)) (hx : SqL K H a xs) (ht : t σ H fun vs H2 => rAppend (.ref a) vs H2 Q) : tBM K "list" rAppend ta t σ H Q := ha _ ⟨.inl ⟨rfl, _, hx⟩, ht⟩
theorem w_revR {a : Addr} {xs : List V} (ha : Ev ta σ H (.ref a)) (hx : SqL K H a xs) (h : rReverse (.ref a) [] H Q) : tBM0 K "list" rReverse ta σ H Q := ha _ ⟨.inl ⟨rfl, _, hx⟩, h⟩
theorem w_andV (h : ta σ H fun x H1 => ∃ c, x = .bl c ∧ if c = true then tb σ H1 Q else Q (.bl false) H1) : tAndV ta tb σ H Q := h
theorem w_orV (h : ta σ H fun x H1 => ∃ c, x = .bl c ∧ if c = true then Q (.bl true) H1 else tb σ H1 Q) : tOrV ta tb σ H Q := h
end
end Px
set_option linter.all false
set_option maxHeartbeats 1000000
namespace MA
/-! ### numbers made of some primes -/
inductive Mk (row : List Nat) : Nat → Prop
  | one : Mk row 1
  | mul {p n : Nat} : p ∈ row → Mk row n → Mk row (p * n)
theorem mk_mono {r r' : List Nat} (h : ∀ p ∈ r, p ∈ r') {n : Nat} (m : Mk r n) : Mk r' n := by
  induction m with
  | one => exact .one
  | mul hp _ ih => exact .mul (h _ hp) ih
theorem mk_congr {r r' : List Nat} (h : ∀ p, p ∈ r ↔ p ∈ r') {n : Nat} : Mk r n ↔ Mk r' n := ⟨mk_mono fun p => (h p).mp, mk_mono fun p => (h p).mpr⟩
theorem mk_times {r : List Nat} {a b : Nat} (h : Mk r a) (g : Mk r b) : Mk r (a * b) := by
  induction h with
  | one => rw [Nat.one_mul]; exact g
  | mul hp _ ih => rw [Nat.mul_assoc]; exact .mul hp ih
theorem mk_pow {r : List Nat} {p : Nat} (h : p ∈ r) (k : Nat) : Mk r (p ^ k) := by
  induction k with
  | zero => exact .one
  | succ k ih => rw [Nat.pow_succ, Nat.mul_comm]; exact .mul h ih
theorem mk_self {r : List Nat} {p : Nat} (h : p ∈ r) : Mk r p := by
  have := mk_pow h 1
  rwa [Nat.pow_one] at this
theorem mk_nil {n : Nat} (h : Mk [] n) : n = 1 := by
  cases h with
  | one => rfl
  | mul hp _ => cases hp
theorem mk_cons {p : Nat} {r : List Nat} {n : Nat} : Mk (p :: r) n ↔ ∃ k m, n = m * p ^ k ∧ Mk r m := by
  constructor
  · intro h
    induction h with
    | one => exact ⟨0, 1, rfl, .one⟩
    | mul hq _ ih =>
      obtain ⟨k, m, rfl, hm⟩ := ih
      rcases List.mem_cons.mp hq with rfl | hq
      · exact ⟨k + 1, m, by rw [Nat.pow_succ]; simp only [Nat.mul_assoc, Nat.mul_comm, Nat.mul_left_comm], hm⟩
      · exact ⟨k, _ * m, by rw [Nat.mul_assoc], .mul hq hm⟩
  · rintro ⟨k, m, rfl, hm⟩
    exact mk_times (mk_mono (fun _ h => List.mem_cons_of_mem _ h) hm) (mk_pow List.mem_cons_self k)
structure Good (row : List Nat) : Prop where
  ge : ∀ p ∈ row, 2 ≤ p
  cop : row.Pairwise Nat.Coprime
theorem Good.tail {p : Nat} {r : List Nat} (g : Good (p :: r)) : Good r := ⟨fun q h => g.ge q (List.mem_cons_of_mem _ h), (List.pairwise_cons.mp g.cop).2⟩
theorem Good.head {p : Nat} {r : List Nat} (g : Good (p :: r)) : 2 ≤ p := g.ge p List.mem_cons_self
theorem Good.off {p : Nat} {r : List Nat} (g : Good (p :: r)) : ∀ q ∈ r, Nat.Coprime p q := (List.pairwise_cons.mp g.cop).1
theorem good_nil : Good [] := ⟨fun _ h => (List.not_mem_nil h).elim, List.Pairwise.nil⟩
theorem Good.sub {r r' : List Nat} (g : Good r') (h : r.Sublist r') : Good r := ⟨fun p hp => g.ge p (h.subset hp), g.cop.sublist h⟩
theorem Good.perm {r r' : List Nat} (g : Good r') (h : r.Perm r') : Good r := ⟨fun p hp => g.ge p (h.mem_iff.mp hp), (h.pairwise_iff (fun z => Nat.Coprime.symm z)).mpr g.cop⟩
theorem mk_pos {r : List Nat} (g : ∀ p ∈ r, 2 ≤ p) {n : Nat} (h : Mk r n) : 0 < n := by
  induction h with
  | one => exact Nat.one_pos
  | mul hp _ ih => exact Nat.mul_pos (by have := g _ hp; omega) ih
theorem cop_mk {p : Nat} {r : List Nat} (h : ∀ q ∈ r, Nat.Coprime p q) {m : Nat} (hm : Mk r m) : Nat.Coprime p m := by
  induction hm with
  | one => exact Nat.coprime_one_right p
  | mul hq _ ih => exact Nat.Coprime.mul_right (h _ hq) ih
theorem cop_ndvd {p m : Nat} (hp : 2 ≤ p) (h : Nat.Coprime p m) : ¬ p ∣ m := fun z => by
  have : Nat.gcd p m = p := Nat.gcd_eq_left z
  have h1 : Nat.gcd p m = 1 := h
  omega
theorem Good.ndvd {p : Nat} {r : List Nat} (g : Good (p :: r)) {m : Nat} (hm : Mk r m) : ¬ p ∣ m := cop_ndvd g.head (cop_mk g.off hm)
theorem split_eq {p : Nat} (hp : 2 ≤ p) : ∀ {k k' m m' : Nat}, ¬ p ∣ m → ¬ p ∣ m' → m * p ^ k = m' * p ^ k' → k = k' ∧ m = m'
  | 0, 0, m, m', _, _, e => ⟨rfl, by simpa using e⟩
  | 0, k + 1, m, m', h, _, e => by
    rw [Nat.pow_zero, Nat.mul_one, Nat.pow_succ, ← Nat.mul_assoc] at e
    exact absurd ⟨m' * p ^ k, by rw [e, Nat.mul_comm]⟩ h
  | k + 1, 0, m, m', _, h, e => by
    rw [Nat.pow_zero, Nat.mul_one, Nat.pow_succ, ← Nat.mul_assoc] at e
    exact absurd ⟨m * p ^ k, by rw [← e, Nat.mul_comm]⟩ h
  | k + 1, k' + 1, m, m', h, h', e => by
    rw [Nat.pow_succ, Nat.pow_succ, ← Nat.mul_assoc, ← Nat.mul_assoc] at e
    have := split_eq hp h h' (Nat.eq_of_mul_eq_mul_right (by omega) e)
    exact ⟨by omega, this.2⟩
/-- a divisor that is one of the primes is made, too -/
theorem Good.div {r : List Nat} : ∀ (g : Good r) {n p : Nat}, p ∈ r → Mk r n → p ∣ n → Mk r (n / p) := by
  intro g n p hp hn hd
  have h1 : r.Perm (p :: r.erase p) := List.perm_cons_erase hp
  have g1 : Good (p :: r.erase p) := g.perm h1.symm
  have hn1 : Mk (p :: r.erase p) n := (mk_congr fun q => h1.mem_iff).mp hn
  obtain ⟨k, m, rfl, hm⟩ := mk_cons.mp hn1
  cases k with
  | zero => rw [Nat.pow_zero, Nat.mul_one] at hd; exact absurd hd (g1.ndvd hm)
  | succ k =>
    rw [Nat.pow_succ, ← Nat.mul_assoc, Nat.mul_div_cancel _ (by have := g1.head; omega)]
    exact (mk_congr fun q => h1.mem_iff).mpr (mk_cons.mpr ⟨k, m, rfl, hm⟩)
theorem Good.div_iff {r : List Nat} (g : Good r) {n p : Nat} (hp : p ∈ r) : Mk r (n * p) ↔ Mk r n := by
  have h2 := g.ge p hp
  constructor
  · intro h
    have := g.div hp h ⟨n, Nat.mul_comm _ _⟩
    rwa [Nat.mul_div_cancel _ (by omega)] at this
  · intro h; rw [Nat.mul_comm]; exact .mul hp h
/-- each but 1 is a prime times one of them -/
theorem mk_step {r : List Nat} {n : Nat} (h : Mk r n) (h1 : n ≠ 1) : ∃ p ∈ r, ∃ m, n = p * m ∧ Mk r m := by
  cases h with
  | one => exact absurd rfl h1
  | mul hp hm => exact ⟨_, hp, _, rfl, hm⟩
/-! ### taking primes out -/
def strip (p n : Nat) : Nat := if h : 2 ≤ p ∧ 0 < n ∧ n % p = 0 then strip p (n / p) else n
termination_by n
decreasing_by exact Nat.div_lt_self h.2.1 (by omega)
def stripAll : List Nat → Nat → Nat
  | [], n => n
  | p :: r, n => stripAll r (strip p n)
theorem strip_yes {p n : Nat} (h1 : 2 ≤ p) (h2 : 0 < n) (h3 : n % p = 0) : strip p n = strip p (n / p) := by rw [strip, dif_pos ⟨h1, h2, h3⟩]
theorem strip_no {p n : Nat} (h3 : n % p ≠ 0) : strip p n = n := by rw [strip, dif_neg (fun h => h3 h.2.2)]
theorem strip_spec {p : Nat} (hp : 2 ≤ p) : ∀ n, 0 < n → ∃ k, n = strip p n * p ^ k ∧ ¬ p ∣ strip p n ∧ 0 < strip p n := by
  intro n
  induction n using Nat.strongRecOn with
  | ind n ih =>
    intro hn
    by_cases h : n % p = 0
    · obtain ⟨k, e, h1, h2⟩ := ih (n / p) (Nat.div_lt_self hn (by omega)) (Nat.div_pos (Nat.le_of_dvd hn (Nat.dvd_of_mod_eq_zero h)) (by omega))
      rw [strip_yes hp hn h]
      refine ⟨k + 1, ?_, h1, h2⟩
      rw [Nat.pow_succ, ← Nat.mul_assoc, ← e, Nat.div_mul_cancel (Nat.dvd_of_mod_eq_zero h)]
    · rw [strip_no h]
      exact ⟨0, by simp, fun z => h (Nat.mod_eq_zero_of_dvd z), hn⟩
theorem stripAll_iff : ∀ {r : List Nat} (g : Good r) {n : Nat}, 0 < n → (stripAll r n = 1 ↔ Mk r n)
  | [], _, n, _ => ⟨fun h => by have h : n = 1 := h
                                rw [h]; exact .one, fun h => mk_nil h⟩
  | p :: r, g, n, hn => by
    obtain ⟨k, e, h1, h2⟩ := strip_spec g.head n hn
    show stripAll r (strip p n) = 1 ↔ _
    rw [stripAll_iff g.tail h2, mk_cons]
    constructor
    · intro h; exact ⟨k, _, e, h⟩
    · rintro ⟨k', m, e', hm⟩
      have := (split_eq g.head h1 (g.ndvd hm) (e.symm.trans e')).2
      rw [this]; exact hm
theorem stripAll_pos {r : List Nat} (g : ∀ p ∈ r, 2 ≤ p) : ∀ {n : Nat}, 0 < n → 0 < stripAll r n := by
  induction r with
  | nil => intro n h; exact h
  | cons p r ih =>
    intro n h
    obtain ⟨_, _, _, h2⟩ := strip_spec (g p List.mem_cons_self) n h
    exact ih (fun q hq => g q (List.mem_cons_of_mem _ hq)) h2
/-! ### lists without repetition -/
theorem perm_of {l l' : List Nat} (h : l.Nodup) (h' : l'.Nodup) (e : ∀ n, n ∈ l ↔ n ∈ l') : l.Perm l' := by
  rw [List.perm_iff_count]
  intro a
  rw [h.count, h'.count]
  by_cases z : a ∈ l
  · rw [if_pos z, if_pos ((e a).mp z)]
  · rw [if_neg z, if_neg (fun y => z ((e a).mpr y))]
theorem len_le {l : List Nat} : ∀ {m : List Nat}, l.Nodup → (∀ n ∈ l, n ∈ m) → l.length ≤ m.length := by
  induction l with
  | nil => intro m _ _; simp
  | cons a l ih =>
    intro m nd hs
    have ha := hs a List.mem_cons_self
    have h1 : l.length ≤ (m.erase a).length := ih (List.nodup_cons.mp nd).2 fun n hn => by
      have hne : n ≠ a := fun z => (List.nodup_cons.mp nd).1 (z ▸ hn)
      exact (List.mem_erase_of_ne hne).mpr (hs n (List.mem_cons_of_mem _ hn))
    rw [List.length_erase_of_mem ha] at h1
    have : 0 < m.length := List.length_pos_of_mem ha
    simp only [List.length_cons]
    omega
theorem pair_nodup {l : List Nat} (h : l.Pairwise (· < ·)) : l.Nodup := h.imp fun z => Nat.ne_of_lt z
theorem eq_of_pair {l l' : List Nat} (h : l.Pairwise (· < ·)) (h' : l'.Pairwise (· < ·)) (e : ∀ n, n ∈ l ↔ n ∈ l') : l = l' :=
  (perm_of (pair_nodup h) (pair_nodup h') e).eq_of_pairwise (fun a b _ _ h1 h2 => by omega) (h.imp Nat.le_of_lt) (h'.imp Nat.le_of_lt)
/-! ### all of them to a bound -/
def IsAll (row : List Nat) (b : Nat) (l : List Nat) : Prop := l.Nodup ∧ ∀ n, n ∈ l ↔ Mk row n ∧ n ≤ b
theorem IsAll.perm {row l l' : List Nat} {b : Nat} (h : IsAll row b l) (h' : IsAll row b l') : l.Perm l' := perm_of h.1 h'.1 fun n => (h.2 n).trans (h'.2 n).symm
theorem IsAll.of_perm {row l l' : List Nat} {b : Nat} (h : IsAll row b l) (p : l'.Perm l) : IsAll row b l' := ⟨p.nodup_iff.mpr h.1, fun n => p.mem_iff.trans (h.2 n)⟩
theorem IsAll.congr {r r' l : List Nat} {b : Nat} (e : ∀ p, p ∈ r ↔ p ∈ r') (h : IsAll r b l) : IsAll r' b l := ⟨h.1, fun n => (h.2 n).trans (and_congr_left fun _ => mk_congr e)⟩
theorem all_zero {row : List Nat} (g : ∀ p ∈ row, 2 ≤ p) : IsAll row 0 [] := ⟨List.Pairwise.nil, fun n => ⟨fun h => (List.not_mem_nil h).elim, fun h => by have := mk_pos g h.1; have := h.2; omega⟩⟩
theorem all_nil {b : Nat} (h : 0 < b) : IsAll [] b [1] := ⟨by simp, fun n => ⟨fun z => by rw [List.mem_singleton.mp z]; exact ⟨.one, h⟩, fun z => by rw [mk_nil z.1]; exact List.mem_singleton.mpr rfl⟩⟩
open Classical in
noncomputable def allL (row : List Nat) (b : Nat) : List Nat := (List.range (b + 1)).filter fun n => @decide (Mk row n) (Classical.propDecidable _)
noncomputable def cnt (row : List Nat) (b : Nat) : Nat := (allL row b).length
open Classical in
theorem allL_mem {row : List Nat} {b n : Nat} : n ∈ allL row b ↔ Mk row n ∧ n ≤ b := by
  unfold allL
  rw [List.mem_filter, List.mem_range, decide_eq_true_eq]
  constructor
  · rintro ⟨h1, h2⟩; exact ⟨h2, by omega⟩
  · rintro ⟨h1, h2⟩; exact ⟨by omega, h1⟩
theorem allL_pair (row : List Nat) (b : Nat) : (allL row b).Pairwise (· < ·) := List.pairwise_lt_range.sublist List.filter_sublist
theorem allL_is (row : List Nat) (b : Nat) : IsAll row b (allL row b) := ⟨pair_nodup (allL_pair row b), fun _ => allL_mem⟩
theorem IsAll.len {row l : List Nat} {b : Nat} (h : IsAll row b l) : l.length = cnt row b := (h.perm (allL_is row b)).length_eq
theorem IsAll.eq {row l : List Nat} {b : Nat} (h : IsAll row b l) (p : l.Pairwise (· < ·)) : l = allL row b := eq_of_pair p (allL_pair row b) fun n => (h.2 n).trans allL_mem.symm
theorem cnt_le {row l : List Nat} {b : Nat} (nd : l.Nodup) (h : ∀ n ∈ l, Mk row n ∧ n ≤ b) : l.length ≤ cnt row b := len_le nd fun n hn => allL_mem.mpr (h n hn)
theorem cnt_congr {r r' : List Nat} {b : Nat} (e : ∀ p, p ∈ r ↔ p ∈ r') : cnt r b = cnt r' b := ((allL_is r b).congr e).len
theorem allL_congr {r r' : List Nat} {b : Nat} (e : ∀ p, p ∈ r ↔ p ∈ r') : allL r b = allL r' b := ((allL_is r b).congr e).eq (allL_pair _ _)
theorem cnt_zero {row : List Nat} (g : ∀ p ∈ row, 2 ≤ p) : cnt row 0 = 0 := ((all_zero g).len).symm
open Classical in
theorem allL_succ_yes {row : List Nat} {b : Nat} (h : Mk row (b + 1)) : allL row (b + 1) = allL row b ++ [b + 1] := by
  unfold allL
  rw [List.range_succ, List.filter_append]
  congr 1
  rw [List.filter_cons, if_pos (by simpa using h)]; rfl
open Classical in
theorem allL_succ_no {row : List Nat} {b : Nat} (h : ¬ Mk row (b + 1)) : allL row (b + 1) = allL row b := by
  unfold allL
  rw [List.range_succ, List.filter_append]
  rw [List.filter_cons, if_neg (by simpa using h)]; simp
theorem cnt_yes {row : List Nat} {b : Nat} (h : Mk row (b + 1)) : cnt row (b + 1) = cnt row b + 1 := by unfold cnt; rw [allL_succ_yes h]; simp
theorem cnt_no {row : List Nat} {b : Nat} (h : ¬ Mk row (b + 1)) : cnt row (b + 1) = cnt row b := by unfold cnt; rw [allL_succ_no h]
theorem cnt_mono {row : List Nat} {a b : Nat} (h : a ≤ b) : cnt row a ≤ cnt row b := len_le (allL_is row a).1 fun n hn => by
  have := allL_mem.mp hn
  exact allL_mem.mpr ⟨this.1, by omega⟩
theorem cnt_row {r r' : List Nat} {b : Nat} (h : ∀ p ∈ r, p ∈ r') : cnt r b ≤ cnt r' b := len_le (allL_is r b).1 fun n hn => by
  have := allL_mem.mp hn
  exact allL_mem.mpr ⟨mk_mono h this.1, this.2⟩
/-- none between: as many -/
theorem cnt_gap {row : List Nat} {a b : Nat} (h : a ≤ b) (g : ∀ n, a < n → n ≤ b → ¬ Mk row n) : cnt row b = cnt row a := by
  obtain ⟨d, rfl⟩ := Nat.exists_eq_add_of_le h
  clear h
  induction d with
  | zero => rfl
  | succ d ih =>
    rw [← Nat.add_assoc, cnt_no (g _ (by omega) (by omega))]
    exact ih fun n h1 h2 => g n h1 (by omega)
theorem allL_gap {row : List Nat} {a b : Nat} (h : a ≤ b) (g : ∀ n, a < n → n ≤ b → ¬ Mk row n) : allL row b = allL row a := by
  obtain ⟨d, rfl⟩ := Nat.exists_eq_add_of_le h
  clear h
  induction d with
  | zero => rfl
  | succ d ih =>
    rw [← Nat.add_assoc, allL_succ_no (g _ (by omega) (by omega))]
    exact ih fun n h1 h2 => g n h1 (by omega)
theorem cnt_pos {row : List Nat} {b : Nat} (h : 0 < b) : 0 < cnt row b := List.length_pos_of_mem (allL_mem.mpr ⟨.one, h⟩)
/-- strictly more behind one that is made -/
theorem cnt_lt {row : List Nat} {a b : Nat} (h : a < b) (hb : Mk row b) : cnt row a < cnt row b := by
  cases b with
  | zero => omega
  | succ b =>
    rw [cnt_yes hb]
    have := cnt_mono (row := row) (a := a) (b := b) (by omega)
    omega
/-- the list behind one prime more: it is what it was, and its own numbers times the prime -/
theorem grow {r L F : List Nat} {p b : Nat} (g : Good (p :: r)) (h0 : IsAll r b L) (nd : F.Nodup) (hM : ∀ y ∈ F, Mk (p :: r) y ∧ y ≤ b) (hL : ∀ y ∈ L, y ∈ F) (hF : ∀ x ∈ F, x * p ≤ b → x * p ∈ F) : IsAll (p :: r) b F := by
  refine ⟨nd, fun n => ⟨hM n, ?_⟩⟩
  rintro ⟨h, hb⟩
  obtain ⟨k, m, rfl, hm⟩ := mk_cons.mp h
  clear h
  induction k with
  | zero =>
    rw [Nat.pow_zero, Nat.mul_one] at hb ⊢
    exact hL _ ((h0.2 m).mpr ⟨hm, hb⟩)
  | succ k ih =>
    rw [Nat.pow_succ, ← Nat.mul_assoc] at hb ⊢
    have h1 : m * p ^ k ≤ m * p ^ k * p := Nat.le_mul_of_pos_right _ (by have := g.head; omega)
    exact hF _ (ih (by omega)) hb
/-! ### the powers from a number on -/
def pwl (p b x : Nat) : List Nat := if h : 2 ≤ p ∧ 0 < x ∧ x ≤ b then x :: pwl p b (x * p) else []
termination_by b + 1 - x
decreasing_by
  have : x * 2 ≤ x * p := Nat.mul_le_mul_left x h.1
  omega
theorem pwl_yes {p b x : Nat} (h1 : 2 ≤ p) (h2 : 0 < x) (h3 : x ≤ b) : pwl p b x = x :: pwl p b (x * p) := by rw [pwl, dif_pos ⟨h1, h2, h3⟩]
theorem pwl_no {p b x : Nat} (h3 : b < x) : pwl p b x = [] := by rw [pwl, dif_neg (by omega)]
theorem pwl_mem {p b x : Nat} (hp : 2 ≤ p) (hx : 0 < x) : ∀ {y}, y ∈ pwl p b x ↔ ∃ k, y = x * p ^ k ∧ y ≤ b := by
  induction x using pwl.induct p b with
  | case1 x h ih =>
    intro y
    rw [pwl_yes h.1 h.2.1 h.2.2, List.mem_cons, ih (Nat.mul_pos hx (by omega))]
    constructor
    · rintro (rfl | ⟨k, rfl, hk⟩)
      · exact ⟨0, by simp, h.2.2⟩
      · exact ⟨k + 1, by rw [Nat.pow_succ]; simp only [Nat.mul_assoc, Nat.mul_comm, Nat.mul_left_comm], hk⟩
    · rintro ⟨k, rfl, hk⟩
      cases k with
      | zero => exact .inl (by simp)
      | succ k => exact .inr ⟨k, by rw [Nat.pow_succ]; simp only [Nat.mul_assoc, Nat.mul_comm, Nat.mul_left_comm], hk⟩
  | case2 x h =>
    intro y
    rw [pwl, dif_neg h]
    constructor
    · intro z; cases z
    · rintro ⟨k, rfl, hk⟩
      have : x * 1 ≤ x * p ^ k := Nat.mul_le_mul_left x (Nat.pow_pos (by omega))
      omega
theorem pwl_ge {p b x : Nat} : ∀ {y}, y ∈ pwl p b x → x ≤ y := by
  induction x using pwl.induct p b with
  | case1 x h ih =>
    intro y hy
    rw [pwl_yes h.1 h.2.1 h.2.2, List.mem_cons] at hy
    rcases hy with rfl | hy
    · exact Nat.le_refl _
    · have := ih hy
      have h2 : x * 2 ≤ x * p := Nat.mul_le_mul_left x h.1
      omega
  | case2 x h => intro y hy; rw [pwl, dif_neg h] at hy; cases hy
theorem pwl_pair {p b x : Nat} : (pwl p b x).Pairwise (· < ·) := by
  induction x using pwl.induct p b with
  | case1 x h ih =>
    rw [pwl_yes h.1 h.2.1 h.2.2]
    refine List.pairwise_cons.mpr ⟨fun y hy => ?_, ih⟩
    have h1 := pwl_ge hy
    have h2 : x * 2 ≤ x * p := Nat.mul_le_mul_left x h.1
    omega
  | case2 x h => rw [pwl, dif_neg h]; exact .nil
theorem pwl_len {p b : Nat} (hp : 2 ≤ p) : ∀ {k x : Nat}, 0 < x → b < x * p ^ k → (pwl p b x).length ≤ k := by
  intro k
  induction k with
  | zero => intro x _ h; rw [Nat.pow_zero, Nat.mul_one] at h; rw [pwl_no h]; simp
  | succ k ih =>
    intro x hx h
    by_cases hb : x ≤ b
    · rw [pwl_yes hp hx hb, List.length_cons]
      have := ih (x := x * p) (Nat.mul_pos hx (by omega)) (by rw [Nat.pow_succ] at h; rw [Nat.mul_assoc, Nat.mul_comm p]; exact h)
      omega
    · rw [pwl_no (by omega)]; simp
theorem nodup_flat {f : Nat → List Nat} : ∀ {L : List Nat}, L.Nodup → (∀ x ∈ L, (f x).Nodup) → (∀ x ∈ L, ∀ y ∈ L, x ≠ y → ∀ z ∈ f x, z ∉ f y) → (L.flatMap f).Nodup
  | [], _, _, _ => by simp
  | a :: L, nd, h1, h2 => by
    rw [List.flatMap_cons, List.nodup_append]
    have nd' := List.nodup_cons.mp nd
    refine ⟨h1 a List.mem_cons_self, nodup_flat nd'.2 (fun x hx => h1 x (List.mem_cons_of_mem _ hx)) (fun x hx y hy => h2 x (List.mem_cons_of_mem _ hx) y (List.mem_cons_of_mem _ hy)), fun z hz w hw e => ?_⟩
    subst e
    obtain ⟨y, hy, hz'⟩ := List.mem_flatMap.mp hw
    exact h2 a List.mem_cons_self y (List.mem_cons_of_mem _ hy) (fun e => nd'.1 (e ▸ hy)) z hz hz'
/-- one prime more, each with all its powers -/
theorem IsAll.flat {r L : List Nat} {p b : Nat} (g : Good (p :: r)) (h : IsAll r b L) : IsAll (p :: r) b (L.flatMap (pwl p b)) := by
  have hp := g.head
  have pos : ∀ x ∈ L, 0 < x := fun x hx => mk_pos g.tail.ge ((h.2 x).mp hx).1
  refine ⟨nodup_flat h.1 (fun x _ => pair_nodup pwl_pair) (fun x hx y hy ne z hz hz' => ?_), fun n => ?_⟩
  · obtain ⟨k, e1, _⟩ := (pwl_mem hp (pos x hx)).mp hz
    obtain ⟨k', e2, _⟩ := (pwl_mem hp (pos y hy)).mp hz'
    exact ne (split_eq hp (g.ndvd ((h.2 x).mp hx).1) (g.ndvd ((h.2 y).mp hy).1) (e1.symm.trans e2)).2
  · rw [List.mem_flatMap, mk_cons]
    constructor
    · rintro ⟨x, hx, hn⟩
      obtain ⟨k, e, hb⟩ := (pwl_mem hp (pos x hx)).mp hn
      exact ⟨⟨k, x, e, ((h.2 x).mp hx).1⟩, hb⟩
    · rintro ⟨⟨k, m, e, hm⟩, hb⟩
      have hm0 := mk_pos g.tail.ge hm
      have : m * 1 ≤ m * p ^ k := Nat.mul_le_mul_left m (Nat.pow_pos (by omega))
      have hL : m ∈ L := (h.2 m).mpr ⟨hm, by omega⟩
      exact ⟨m, hL, (pwl_mem hp hm0).mpr ⟨k, e, hb⟩⟩
theorem cnt_sum {r L : List Nat} {p b : Nat} (g : Good (p :: r)) (h : IsAll r b L) : cnt (p :: r) b = (L.map fun x => (pwl p b x).length).sum := by
  rw [← (h.flat g).len, List.length_flatMap]
theorem sum_le {f : Nat → Nat} {k : Nat} : ∀ {L : List Nat}, (∀ x ∈ L, f x ≤ k) → (L.map f).sum ≤ L.length * k
  | [], _ => by simp
  | a :: L, h => by
    rw [List.map_cons, List.sum_cons, List.length_cons, Nat.add_mul]
    have := sum_le fun x hx => h x (List.mem_cons_of_mem _ hx)
    have := h a List.mem_cons_self
    omega
theorem cnt_box {r : List Nat} {p b k : Nat} (g : Good (p :: r)) (h : b < p ^ k) : cnt (p :: r) b ≤ cnt r b * k := by
  rw [cnt_sum g (allL_is r b)]
  refine sum_le fun x hx => ?_
  have h0 := mk_pos g.tail.ge (allL_mem.mp hx).1
  refine pwl_len g.head h0 ?_
  have : 1 * p ^ k ≤ x * p ^ k := Nat.mul_le_mul_right _ h0
  omega
theorem cnt_nil {b : Nat} : cnt [] b ≤ 1 := by
  cases b with
  | zero => rw [cnt_zero (fun _ h => (List.not_mem_nil h).elim)]; omega
  | succ b => rw [← (all_nil (b := b + 1) (by omega)).len]; simp
/-- by a prime: those without it, and as many as to what it leaves of the bound -/
theorem cnt_split {r : List Nat} {p b : Nat} (g : Good (p :: r)) : cnt (p :: r) b = cnt r b + cnt (p :: r) (b / p) := by
  have hp := g.head
  have h1 : IsAll (p :: r) b (allL r b ++ (allL (p :: r) (b / p)).map (· * p)) := by
    refine ⟨?_, fun n => ?_⟩
    · rw [List.nodup_append]
      refine ⟨(allL_is _ _).1, ?_, fun a ha c hc e => ?_⟩
      · exact List.pairwise_map.mpr ((allL_is (p :: r) (b / p)).1.imp fun ne e => ne (Nat.eq_of_mul_eq_mul_right (by omega) e))
      · subst e
        obtain ⟨x, _, e⟩ := List.mem_map.mp hc
        exact g.ndvd (allL_mem.mp ha).1 ⟨x, by rw [← e, Nat.mul_comm]⟩
    · rw [List.mem_append, List.mem_map, allL_mem]
      constructor
      · rintro (⟨h1, h2⟩ | ⟨x, hx, rfl⟩)
        · exact ⟨mk_mono (fun _ z => List.mem_cons_of_mem _ z) h1, h2⟩
        · obtain ⟨h1, h2⟩ := allL_mem.mp hx
          exact ⟨by show Mk _ (x * p); rw [Nat.mul_comm]; exact .mul List.mem_cons_self h1, (Nat.le_div_iff_mul_le (by omega)).mp h2⟩
      · rintro ⟨h1, h2⟩
        obtain ⟨k, m, rfl, hm⟩ := mk_cons.mp h1
        cases k with
        | zero => rw [Nat.pow_zero, Nat.mul_one] at h2 ⊢; exact .inl ⟨hm, h2⟩
        | succ k =>
          rw [Nat.pow_succ, ← Nat.mul_assoc] at h2 ⊢
          exact .inr ⟨m * p ^ k, allL_mem.mpr ⟨mk_cons.mpr ⟨k, m, rfl, hm⟩, (Nat.le_div_iff_mul_le (by omega)).mpr h2⟩, rfl⟩
  rw [← h1.len, List.length_append, List.length_map]
  rfl
/-! ### next and last -/
structure IsNext (row : List Nat) (n m : Nat) : Prop where
  made : Mk row m
  gt : n < m
  le : ∀ k, Mk row k → n < k → m ≤ k
structure IsLast (row : List Nat) (n m : Nat) : Prop where
  made : Mk row m
  lt : m < n
  ge : ∀ k, Mk row k → k < n → k ≤ m
theorem IsNext.uniq {row : List Nat} {n m m' : Nat} (h : IsNext row n m) (h' : IsNext row n m') : m = m' := Nat.le_antisymm (h.le m' h'.made h'.gt) (h'.le m h.made h.gt)
theorem IsLast.uniq {row : List Nat} {n m m' : Nat} (h : IsLast row n m) (h' : IsLast row n m') : m = m' := Nat.le_antisymm (h'.ge m h.made h.lt) (h.ge m' h'.made h'.lt)
theorem IsNext.of_last {row : List Nat} {n m : Nat} (h : IsLast row n m) (hn : Mk row n) : IsNext row m n := ⟨hn, h.lt, fun k hk hmk => by
  rcases Nat.lt_or_ge k n with z | z
  · have := h.ge k hk z; omega
  · exact z⟩
theorem IsLast.of_next {row : List Nat} {n m : Nat} (h : IsNext row n m) (hn : Mk row n) : IsLast row m n := ⟨hn, h.gt, fun k hk hkm => by
  rcases Nat.lt_or_ge n k with z | z
  · have := h.le k hk z; omega
  · exact z⟩
theorem cnt_next {row : List Nat} {n m : Nat} (h : IsNext row n m) : cnt row m = cnt row n + 1 := by
  obtain ⟨md, gt, le⟩ := h
  cases m with
  | zero => omega
  | succ m =>
    rw [cnt_yes md, cnt_gap (row := row) (a := n) (b := m) (by omega) fun k h1 h2 hk => by have := le k hk h1; omega]
theorem cnt_last {row : List Nat} {n m : Nat} (h : IsLast row n m) : cnt row (n - 1) = cnt row m :=
  cnt_gap (by have := h.lt; omega) fun k h1 h2 hk => by have := h.ge k hk (by have := h.lt; omega); omega
end MA
set_option linter.all false
set_option maxHeartbeats 1000000
namespace MA
/-! ### rows of primes below 100 -/
def PR : List Nat := [2, 3, 5, 7, 11, 13, 17, 19, 23, 29, 31, 37, 41, 43, 47, 53, 59, 61, 67, 71, 73, 79, 83, 89, 97]
structure Rw (row : List Nat) : Prop where
  mem : ∀ p ∈ row, p ∈ PR
  up : row.Pairwise (· < ·)
  le : row.length ≤ 6
theorem pr_cop : ∀ p ∈ PR, ∀ q ∈ PR, p < q → Nat.Coprime p q := by decide +kernel
theorem pr_ge : ∀ p ∈ PR, 2 ≤ p := by decide
theorem pr_le : ∀ p ∈ PR, p ≤ 97 := by decide
theorem Rw.good {row : List Nat} (w : Rw row) : Good row := ⟨fun p hp => pr_ge p (w.mem p hp), w.up.imp_of_mem fun {p q} hp hq h => pr_cop p (w.mem p hp) q (w.mem q hq) h⟩
theorem Rw.ge {row : List Nat} (w : Rw row) {p : Nat} (h : p ∈ row) : 2 ≤ p ∧ p ≤ 97 := ⟨pr_ge p (w.mem p h), pr_le p (w.mem p h)⟩
theorem Rw.sub {row r : List Nat} (w : Rw row) (s : r.Sublist row) : Rw r := ⟨fun p h => w.mem p (s.subset h), w.up.sublist s, Nat.le_trans s.length_le w.le⟩
theorem Rw.tail {p : Nat} {r : List Nat} (w : Rw (p :: r)) : Rw r := w.sub (List.sublist_cons_self _ _)
theorem Rw.nil : Rw [] := ⟨fun _ h => (List.not_mem_nil h).elim, List.Pairwise.nil, by simp⟩
def Fits (row : List Nat) (b : Nat) : Prop := (row.length ≤ 4 ∧ b < 2 ^ 70) ∨ (row.length ≤ 5 ∧ b < 2 ^ 37) ∨ b ≤ 2 * 10 ^ 9
theorem Fits.sub {row r : List Nat} {b : Nat} (f : Fits row b) (s : r.length ≤ row.length) : Fits r b := by unfold Fits at *; omega
theorem Fits.mono {row : List Nat} {b c : Nat} (f : Fits row b) (h : c ≤ b) : Fits row c := by unfold Fits at *; omega
theorem box1 {p k K b : Nat} {r : List Nat} (g : Good (p :: r)) {q : Nat} (hq : q ≤ p) (hb : b < q ^ k) (h : cnt r b ≤ K) : cnt (p :: r) b ≤ K * k :=
  Nat.le_trans (cnt_box g (Nat.lt_of_lt_of_le hb (Nat.pow_le_pow_left hq k))) (Nat.mul_le_mul_right _ h)
theorem st3 : ∀ p ∈ PR, 2 < p → 3 ≤ p := by decide
theorem st5 : ∀ p ∈ PR, 3 < p → 5 ≤ p := by decide
theorem st7 : ∀ p ∈ PR, 5 < p → 7 ≤ p := by decide
theorem st11 : ∀ p ∈ PR, 7 < p → 11 ≤ p := by decide
theorem st13 : ∀ p ∈ PR, 11 < p → 13 ≤ p := by decide
def QS : List Nat := [2, 3, 5, 7, 11, 13]
/-- the i-th of a row is no less than the i-th prime -/
theorem step_of : ∀ i, i < 5 → ∀ p ∈ PR, QS.getD i 0 < p → QS.getD (i + 1) 0 ≤ p := by decide
theorem row_at : ∀ (row : List Nat) (i : Nat), (∀ p ∈ row, p ∈ PR) → row.Pairwise (· < ·) → row.length + i ≤ 6 → (∀ p ∈ row, QS.getD i 0 ≤ p) → ∀ j p, row[j]? = some p → QS.getD (i + j) 0 ≤ p
  | [], _, _, _, _, _, j, p, h => by simp at h
  | a :: r, i, hm, hp, hl, hg, 0, p, h => by
    simp at h
    subst h
    exact hg a List.mem_cons_self
  | a :: r, i, hm, hp, hl, hg, j + 1, p, h => by
    have h' : r[j]? = some p := by simpa using h
    have := row_at r (i + 1) (fun p h => hm p (List.mem_cons_of_mem _ h)) (List.pairwise_cons.mp hp).2 (by simp at hl; omega) (fun p hpr => by
      have h1 := (List.pairwise_cons.mp hp).1 p hpr
      have h2 := hg a List.mem_cons_self
      have h3 : 0 < r.length := List.length_pos_of_mem hpr
      exact step_of i (by simp at hl; omega) p (hm p (List.mem_cons_of_mem _ hpr)) (by omega)) j p h'
    rw [show i + (j + 1) = i + 1 + j by omega]
    exact this
theorem Rw.at {row : List Nat} (w : Rw row) {j p : Nat} (h : row[j]? = some p) : QS.getD j 0 ≤ p := by
  have := row_at row 0 w.mem w.up (by have := w.le; omega) (fun p hp => (w.ge hp).1) j p h
  rwa [Nat.zero_add] at this
theorem cnt_boxes : ∀ (row qs ks : List Nat) (b : Nat), Good row → row.length ≤ qs.length → (∀ j p q : Nat, row[j]? = some p → qs[j]? = some q → q ≤ p) → ks.length = qs.length → (∀ (j q k : Nat), qs[j]? = some q → ks[j]? = some k → b < q ^ k) → (∀ k ∈ ks, 1 ≤ k) → cnt row b ≤ ks.foldr (· * ·) 1
  | [], qs, ks, b, _, _, _, _, _, h => by
    refine Nat.le_trans cnt_nil ?_
    revert h
    generalize ks = ks'
    intro h
    induction ks' with
    | nil => simp
    | cons k ks ih =>
      rw [List.foldr_cons]
      exact Nat.mul_pos (h k List.mem_cons_self) (ih fun k hk => h k (List.mem_cons_of_mem _ hk))
  | p :: r, [], ks, b, _, hl, _, _, _, _ => by simp at hl
  | p :: r, q :: qs, [], b, _, _, _, hl, _, _ => by simp at hl
  | p :: r, q :: qs, k :: ks, b, g, hl, hq, he, hb, hk => by
    have ih := cnt_boxes r qs ks b g.tail (by simpa using hl) (fun j p q h1 h2 => hq (j + 1) p q (by simpa using h1) (by simpa using h2)) (by simpa using he) (fun j q k h1 h2 => hb (j + 1) q k (by simpa using h1) (by simpa using h2)) fun k h => hk k (List.mem_cons_of_mem _ h)
    rw [List.foldr_cons, Nat.mul_comm]
    exact box1 g (hq 0 p q rfl rfl) (hb 0 q k rfl rfl) ih
theorem getD_take {n j q : Nat} (h : (QS.take n)[j]? = some q) : q = QS.getD j 0 := by
  rw [List.getElem?_take] at h
  split at h
  · rw [List.getD_eq_getElem?_getD, h]; rfl
  · cases h
theorem Rw.box {row : List Nat} (w : Rw row) (n : Nat) (ks : List Nat) (b : Nat) (hl : row.length ≤ (QS.take n).length) (he : ks.length = (QS.take n).length) (hb : ∀ (j q k : Nat), (QS.take n)[j]? = some q → ks[j]? = some k → b < q ^ k) (hk : ∀ k ∈ ks, 1 ≤ k) : cnt row b ≤ ks.foldr (· * ·) 1 :=
  cnt_boxes row (QS.take n) ks b w.good hl (fun j p q h1 h2 => by rw [getD_take h2]; exact w.at h1) he hb hk
theorem all_of {qs ks : List Nat} {B b : Nat} (h : ∀ x ∈ qs.zip ks, B < x.1 ^ x.2) (hb : b ≤ B) : ∀ (j q k : Nat), qs[j]? = some q → ks[j]? = some k → b < q ^ k := fun j q k h1 h2 => by
  have : (q, k) ∈ qs.zip ks := List.mem_iff_getElem?.mpr ⟨j, by rw [List.getElem?_zip_eq_some]; exact ⟨h1, h2⟩⟩
  exact Nat.lt_of_le_of_lt hb (h _ this)
theorem Rw.fit {row : List Nat} (w : Rw row) {b : Nat} (f : Fits row b) : cnt row b ≤ 9000000 := by
  rcases f with ⟨h1, h2⟩ | ⟨h1, h2⟩ | h
  · exact Nat.le_trans (w.box 4 [70, 45, 31, 25] b (by simpa [QS] using h1) rfl (all_of (B := 2 ^ 70 - 1) (by decide) (by omega)) (by decide)) (by decide)
  · exact Nat.le_trans (w.box 5 [37, 24, 16, 14, 11] b (by simpa [QS] using h1) rfl (all_of (B := 2 ^ 37 - 1) (by decide) (by omega)) (by decide)) (by decide)
  · exact Nat.le_trans (w.box 6 [31, 20, 14, 12, 9, 9] b (by simpa [QS] using w.le) rfl (all_of (B := 2 * 10 ^ 9) (by decide) (by omega)) (by decide)) (by decide)
end MA
set_option Elab.async false
set_option linter.all false
set_option maxRecDepth 100000
set_option maxHeartbeats 4000000
namespace Px
open PySem L2 MA
local macro_rules | `(tactic| bv_omega) => `(tactic| first | assumption | omega | exact cm (by omega) | exact cd (by omega) | exact cp (by omega) | exact trivial)
local macro_rules | `(tactic| array_get_dec) => `(tactic| first
  | assumption
  | exact sq_up
  | exact Own.sqi (by assumption) 0 (by rfl)
  | exact Own.sqi (by assumption) 1 (by rfl)
  | exact Own.sqi (by assumption) 2 (by rfl)
  | exact Own.sqi (by assumption) 3 (by rfl)
  | exact Own.sqi (by assumption) 4 (by rfl)
  | exact Own.sq (by assumption) (by assumption)
  | exact sq_new (by assumption) (by assumption))
local macro_rules | `(tactic| clean_wf) => `(tactic| first
  | with_reducible exact ev_c
  | (with_reducible apply ev_v') <;> rfl
  | (with_reducible apply ev_add) <;> clean_wf
  | (with_reducible apply ev_sub) <;> clean_wf
  | (with_reducible apply ev_mul) <;> clean_wf
  | (with_reducible apply ev_mod) <;> clean_wf
  | (with_reducible apply ev_div) <;> clean_wf
  | (with_reducible apply ev_pow) <;> clean_wf
  | (with_reducible apply ev_neg) <;> clean_wf
  | (with_reducible apply ev_lt) <;> clean_wf
  | (with_reducible apply ev_le) <;> clean_wf
  | (with_reducible apply ev_gt) <;> clean_wf
  | (with_reducible apply ev_ge) <;> clean_wf
  | (with_reducible apply ev_eqi) <;> clean_wf
  | (with_reducible apply ev_nei) <;> clean_wf
  | (with_reducible apply ev_len) <;> clean_wf
  | (with_reducible apply ev_ixL) <;> clean_wf
  | (with_reducible apply ev_min) <;> clean_wf
  | (with_reducible apply ev_max) <;> clean_wf
  | (with_reducible apply ev_abs) <;> clean_wf
  | (with_reducible apply ev_intB) <;> clean_wf
  | (with_reducible apply ea_1) <;> clean_wf
  | (with_reducible apply ea_2) <;> clean_wf
  | (with_reducible apply ea_3) <;> clean_wf
  | with_reducible exact ea_nil
  | (with_reducible apply ea_cons) <;> clean_wf
  | with_reducible exact el_nil
  | (with_reducible apply ep_lt) <;> clean_wf
  | (with_reducible apply ep_le) <;> clean_wf
  | (with_reducible apply ep_gt) <;> clean_wf
  | (with_reducible apply ep_ge) <;> clean_wf
  | (with_reducible apply ep_eqi) <;> clean_wf
  | (with_reducible apply ep_nei) <;> clean_wf
  | (with_reducible apply ep_not) <;> clean_wf
  | ((with_reducible apply ep_and) <;> first | (intro _; clean_wf; done) | clean_wf)
  | ((with_reducible apply ep_or) <;> first | (intro _; clean_wf; done) | clean_wf)
  | (with_reducible apply et_t) <;> clean_wf
  | (with_reducible apply eo_is) <;> clean_wf
  | with_reducible exact eo_no
  | array_get_dec
  | bv_omega
  | rfl
  | skip)
local macro_rules | `(tactic| symm_saturate) => `(tactic| first
  | ((with_reducible apply q_set); (focus (clean_wf; done)))
  | ((with_reducible apply s_set); (focus (clean_wf; done)))
  | ((with_reducible apply q_aug (hx := rfl)); (focus (clean_wf; done)))
  | ((with_reducible apply s_aug (hx := rfl)); (focus (clean_wf; done)))
  | ((with_reducible apply q_augC (hx := rfl)); (focus (clean_wf; done)))
  | ((with_reducible apply s_augC (hx := rfl)); (focus (clean_wf; done))))
local macro_rules | `(tactic| subst_eqs) => `(tactic| repeat' (first
  | with_reducible apply w_c
  | ((with_reducible apply w_v'); (focus rfl))
  | with_reducible apply w_op
  | with_reducible apply w_cb
  | with_reducible apply w_cons
  | with_reducible apply w_nil
  | with_reducible apply r_add
  | with_reducible apply r_sub
  | ((with_reducible apply r_mul); (focus (bv_omega; done)))
  | ((with_reducible apply r_div); (focus (bv_omega; done)))
  | ((with_reducible apply r_mod); (focus (bv_omega; done)))
  | ((with_reducible apply r_pow); (focus (bv_omega; done)))
  | with_reducible apply r_lt
  | with_reducible apply r_le
  | with_reducible apply r_gt
  | with_reducible apply r_ge
  | with_reducible apply r_min
  | with_reducible apply r_max
  | with_reducible apply r_intB
  | ((with_reducible apply r_len); (focus (array_get_dec; done)))
  | with_reducible apply w_callW
  | with_reducible apply q_setW
  | with_reducible apply s_setW
  | with_reducible apply s_retW))

abbrev zl (l : List Nat) : List Int := l.map fun (x : Nat) => (x : Int)
abbrev zv (l : List Nat) : List V := (zl l).map V.int
/-! ### the hand -/
abbrev hd (d s : Int) : List V := [.int d, .int s]
def HdOk (d s : Int) : Prop := 0 ≤ d ∧ 0 ≤ s ∧ s < 2147483587
def sp_law_hand (K : PySem.W.Frag) : Sp := fun vs H Q _ => Nod H ∧ ∃ (c k : Int), vs = [.int c, .int k] ∧ 0 ≤ k ∧ k < 1000 ∧ ∀ (p : Addr) (d s : Int), H p = none → HdOk d s → Q (.ref p) (upd H p (.lst (hd d s)))
def sp_law_draw (K : PySem.W.Frag) : Sp := fun vs H Q _ => Nod H ∧ ∃ (a : Addr) (d s m : Int), vs = [.ref a, .int m] ∧ H a = some (.lst (hd d s)) ∧ HdOk d s ∧ 0 < m ∧ m < 2 ^ 200 ∧
  ∀ (r d' s' : Int), 0 ≤ r → r < m → HdOk d' s' → Q (.int r) (upd H a (.lst (hd d' s')))
/-- a draw from a hand that is one's own -/
theorem Own.draw {K : PySem.W.Frag} {B H : Hp} {L : List (Addr × List V)} {p : Addr} {d s m : Int} {Q : VK} {E : XK} (o : Own B L H) (i : Nat) (h : L[i]? = some (p, hd d s)) (ok : HdOk d s) (m0 : 0 < m ∧ m < 2 ^ 200)
    (k : ∀ (r d' s' : Int) (H2 : Hp), 0 ≤ r ∧ r < m → HdOk d' s' → Own B (L.set i (p, hd d' s')) H2 → Q (.int r) H2) : sp_law_draw K ([.ref p, .int m] ++ []) H Q E :=
  ⟨o.nod, p, d, s, m, rfl, o.atI i h, ok, m0.1, m0.2, fun r d' s' h0 h1 ok' => k r d' s' _ ⟨h0, h1⟩ ok' (o.mut i h)⟩
/-! ### the cells -/
/-- what stands where _law_cells has told -/
structure Cells (H : Hp) (l : Addr) (as : List Addr) (ns : List Int) : Prop where
  lst : H l = some (.lst (as.map V.ref))
  len : as.length = ns.length
  tup : ∀ (i : Nat) (b : Addr) (c : Int), as[i]? = some b → ns[i]? = some c → H b = some (.tup [.int (i : Int), .int c])
theorem Cells.ex {H H' : Hp} {l : Addr} {as : List Addr} {ns : List Int} (c : Cells H l as ns) (e : Ex H H') : Cells H' l as ns := ⟨e _ _ c.lst, c.len, fun i b x h1 h2 => e _ _ (c.tup i b x h1 h2)⟩
def sp_law_cells (K : PySem.W.Frag) : Sp := fun vs H Q _ => Nod H ∧ ∃ (a : Addr) (ns : List Int) (m : Nat), vs = [.ref a, .int (m : Int)] ∧ SqL K H a (ns.map V.int) ∧ ns.length ≤ 63 ∧ 
  ∀ (l : Addr) (as : List Addr) (cs : List Int) (H' : Hp), cs.length ≤ 63 → Ex H H' → Nod H' → Cells H' l as cs → (∀ b u, H b = some u → l ≠ b ∧ b ∉ as) → Q (.ref l) H'
theorem nod_layT {H : Hp} (n : Nod H) : ∀ {as : List Addr} {xs : List V} {j : Nat}, Nod (layT H j as xs)
  | [], _, _ => n
  | _ :: _, [], _ => n
  | a :: as, x :: xs, j => by
    have := nod_layT n (as := as) (xs := xs) (j := j + 1)
    show Nod (upd (layT H (j + 1) as xs) a (.tup [.int (j : Int), x]))
    infer_instance
/-- what is forgotten on the way to the cells -/
theorem fg_cells {H H1 : Hp} [n : Nod H] {l : Addr} {as : List Addr} {xs : List V} (e : Ex H H1) (hl : H1 l = none) (hla : l ∉ as) (han : ∀ b ∈ as, H1 b = none) (nd : as.Nodup) (hlen : as.length = xs.length) :
    Fg H (upd (layT H1 0 as xs) l (.lst (as.map V.ref))) (upd (layT H 0 as xs) l (.lst (as.map V.ref))) := by
  refine fg_gen (fun a => a = l ∨ a ∈ as) (fun a u q z => ?_) (fun a z => ?_) (fun a q z => ?_)
  · have z1 : a ≠ l := fun y => z (.inl y)
    have z2 : a ∉ as := fun y => z (.inr y)
    exact ⟨by rw [upd_ne z1, layT_off z2]; exact e a u q, by rw [upd_ne z1, layT_off z2]; exact q⟩
  · by_cases h : a = l
    · subst h
      exact ⟨.lst (as.map V.ref), trivial, upd_same, upd_same, fun u q => by rw [e a u q] at hl; cases hl⟩
    · have hm : a ∈ as := z.resolve_left h
      obtain ⟨i, hi⟩ := List.mem_iff_getElem?.mp hm
      have hi2 : i < xs.length := by rw [← hlen]; exact (List.getElem?_eq_some_iff.mp hi).1
      have hx := List.getElem?_eq_getElem hi2
      exact ⟨.tup [.int ((0 + i : Nat) : Int), xs[i]], trivial, by rw [upd_ne h]; exact layT_at nd hi hx, by rw [upd_ne h]; exact layT_at nd hi hx, fun u q => by have := han a hm; rw [e a u q] at this; cases this⟩
  · have z1 : a ≠ l := fun y => z (.inl y)
    have z2 : a ∉ as := fun y => z (.inr y)
    rw [upd_ne z1, layT_off z2]; exact q
/-- slots: script many -/
abbrev n_law_cells : List Str := ["script", "many"]
def t_law_cells (K : PySem.W.Frag) : TS := (sFg (tRet (tEnumL K (tCons (tOp rCat (tSl (rSlL K) (tVar 0) tNoPart (tPart (tVar 1))) (tOp rRep (tLst (tCons (tC (.int 0)) tNil)) (tCB cInt (tCons (tOp (rEqD K) (tVar 0) (tLst tNil)) tNil)))) tNil))))
theorem r_law_cells {K : PySem.W.Frag} {vs : List V} {H : Hp} {Q : VK} {E : XK} (h : sp_law_cells K vs H Q E) : t_law_cells K { nx := fun _ H' => Q .non H', rt := Q } (start n_law_cells vs) H := by
  obtain ⟨nd, a, ns, m, rfl, ha, hl, q⟩ := h
  refine fg_body (s_retW ?_)
  show tOp rCat (tSl (rSlL K) (tVar 0) tNoPart (tPart (tVar 1))) _ _ H _
  refine w_op (w_evL (el_sl (ev_v 0) eo_no (eo_is (ev_v 1)) ha) fun p1 hp1 => ?_)
  rw [cut_to]
  have o1 : Own H [(p1, (ns.take m).map V.int)] (upd H p1 (.lst ((ns.take m).map V.int))) := Own.nil.new hp1
  refine w_op (w_evL (el_lst (ea_1 ev_c) (by simp)) fun p2 hp2 => ?_)
  have o2 := o1.new (xs := [.int 0]) hp2
  refine w_cb (w_one (w_op (w_v 0 (w_evL el_nil fun p3 hp3 => ?_))))
  have o3 := o2.new (xs := []) hp3
  refine rv_eqI (ns := ns) (ms := []) (o3.sq ha) (o3.sqi 0 rfl) _ (r_intB (w_rep1 (k := 1) (o3.atI 1 rfl) fun p4 hp4 => ?_))
  have o4 := o3.new (xs := (if decide (ns = []) then [V.int 0] else [])) hp4
  refine ⟨p1, p4, _, _, rfl, rfl, o4.atI 3 rfl, o4.atI 0 rfl, ?_, fun p5 hp5 => ?_⟩
  · refine Nat.le_trans (m := 100) ?_ (by decide)
    split <;> simp <;> omega
  have o5 := o4.new (xs := (ns.take m).map V.int ++ (if decide (ns = []) then [V.int 0] else [])) hp5
  have ex : ∃ cs : List Int, (ns.take m).map V.int ++ (if decide (ns = []) then [V.int 0] else []) = cs.map V.int ∧ cs.length ≤ 63 := by
    by_cases h0 : ns = []
    · subst h0
      exact ⟨[0], by simp, by simp⟩
    · exact ⟨ns.take m, by simp [h0], by rw [List.length_take]; omega⟩
  obtain ⟨cs, ecs, hcs⟩ := ex
  rw [ecs] at o5 ⊢
  refine ⟨p5, cs.map V.int, rfl, o5.sqi 0 rfl, fun l as h1 h2 h3 h4 h5 => ?_⟩
  refine ⟨_, fg_cells o5.ex h1 h2 h4 h3 h5, q l as cs _ hcs ?_ ?_ ⟨upd_same, by simpa using h5, fun i b c e1 e2 => ?_⟩ fun b u hb => ⟨fun z => ?_, fun z => ?_⟩⟩
  · intro b u hb
    have hb5 := o5.ex b u hb
    rw [upd_ne (ne_of_none hb5 h1), layT_off (fun z => by rw [h4 b z] at hb5; cases hb5)]
    exact hb
  · have := nod_layT nd (as := as) (xs := cs.map V.int) (j := 0)
    infer_instance
  · have hb : b ≠ l := fun z => h2 (z ▸ List.mem_of_getElem? e1)
    rw [upd_ne hb, layT_at h3 e1 (by rw [List.getElem?_map, e2]; rfl), Nat.zero_add]
  · subst z
    have := o5.ex _ _ hb
    rw [h1] at this
    cases this
  · have := o5.ex _ _ hb
    rw [h4 b z] at this
    cases this
/-- for k, cell in _law_cells(script, m): P of the slots; what is made in a turn may stay -/
theorem for_cells {K : PySem.W.Frag} {σ : L2.St} {H : Hp} {D : Ends} {tu s2 : TS} {ta : TA} {n1 n2 : Nat} {a : Addr} {ns : List Int} {m : Nat} [nd : Nod H] (h : EvA ta σ H [.ref a, .int (m : Int)]) (ha : SqL K H a (ns.map V.int)) (hl : ns.length ≤ 63) (P : L2.St → Prop) (h0 : P σ)
    (hs : ∀ (H1 : Hp), Ex H H1 → ∀ (k c : Int) σ' H', 0 ≤ k → k < 63 → P σ' → Ex H1 H' → Nod H' → tu { D with nx := fun σ2 H2 => P σ2 ∧ Ex H1 H2 ∧ Nod H2, ct := fun σ2 H2 => P σ2 ∧ Ex H1 H2 ∧ Nod H2, bk := s2 D } ((σ'.set n1 (some (.int k))).set n2 (some (.int c))) H')
    (hd : ∀ σ' H', P σ' → Ex H H' → Nod H' → s2 D σ' H') : tSeq (tFor (iList K (tCall (sp_law_cells K) [] E0 ta)) (gTup K 2 (gCons (gName n1) (gCons (gName n2) gNil))) tu) s2 D σ H := by
  refine q_seq (w_forL (w_call h ⟨nd, a, ns, m, rfl, ha, hl, fun l as cs H1 hc e1 n1' C _ => ⟨l, rfl, ⟨_, sq_at C.lst⟩, ?_⟩⟩))
  refine lp_list (xs := as.map V.ref) (fun i σ' H' => P σ' ∧ Ex H1 H' ∧ Nod H') ⟨h0, ex_refl, n1'⟩ (fun i σ' H' _ hv => sq_at (hv.2.1 _ _ C.lst)) (fun i x σ' H' hi hv => ?_) (fun σ' H' hv => hd σ' H' hv.1 (ex_trans e1 hv.2.1) hv.2.2)
  rw [List.getElem?_map] at hi
  cases e : as[i]? with
  | none => rw [e] at hi; cases hi
  | some b =>
    rw [e] at hi
    cases hi
    have hlt : i < cs.length := by rw [← C.len]; exact (List.getElem?_eq_some_iff.mp e).1
    have hx := List.getElem?_eq_getElem hlt
    refine ⟨b, _, rfl, st_at (hv.2.1 _ _ (C.tup i b _ e hx)), rfl, _, _, rfl, _, _, rfl, rfl, ?_⟩
    exact hs H1 e1 (i : Int) cs[i] σ' H' (by omega) (by omega) hv.1 hv.2.1 hv.2.2
end Px
set_option Elab.async false
set_option linter.all false
set_option maxRecDepth 100000
set_option maxHeartbeats 4000000
namespace Px
open PySem L2 MA
local macro_rules | `(tactic| bv_omega) => `(tactic| first | assumption | omega | exact cm (by omega) | exact cd (by omega) | exact cp (by omega) | exact trivial)
local macro_rules | `(tactic| array_get_dec) => `(tactic| first
  | assumption
  | exact sq_up
  | exact Own.sqi (by assumption) 0 (by rfl)
  | exact Own.sqi (by assumption) 1 (by rfl)
  | exact Own.sqi (by assumption) 2 (by rfl)
  | exact Own.sqi (by assumption) 3 (by rfl)
  | exact Own.sqi (by assumption) 4 (by rfl)
  | exact Own.sq (by assumption) (by assumption)
  | exact sq_new (by assumption) (by assumption))
local macro_rules | `(tactic| clean_wf) => `(tactic| first
  | with_reducible exact ev_c
  | (with_reducible apply ev_v') <;> rfl
  | (with_reducible apply ev_add) <;> clean_wf
  | (with_reducible apply ev_sub) <;> clean_wf
  | (with_reducible apply ev_mul) <;> clean_wf
  | (with_reducible apply ev_mod) <;> clean_wf
  | (with_reducible apply ev_div) <;> clean_wf
  | (with_reducible apply ev_pow) <;> clean_wf
  | (with_reducible apply ev_neg) <;> clean_wf
  | (with_reducible apply ev_lt) <;> clean_wf
  | (with_reducible apply ev_le) <;> clean_wf
  | (with_reducible apply ev_gt) <;> clean_wf
  | (with_reducible apply ev_ge) <;> clean_wf
  | (with_reducible apply ev_eqi) <;> clean_wf
  | (with_reducible apply ev_nei) <;> clean_wf
  | (with_reducible apply ev_len) <;> clean_wf
  | (with_reducible apply ev_ixL) <;> clean_wf
  | (with_reducible apply ev_min) <;> clean_wf
  | (with_reducible apply ev_max) <;> clean_wf
  | (with_reducible apply ev_abs) <;> clean_wf
  | (with_reducible apply ev_intB) <;> clean_wf
  | (with_reducible apply ea_1) <;> clean_wf
  | (with_reducible apply ea_2) <;> clean_wf
  | (with_reducible apply ea_3) <;> clean_wf
  | with_reducible exact ea_nil
  | (with_reducible apply ea_cons) <;> clean_wf
  | with_reducible exact el_nil
  | (with_reducible apply ep_lt) <;> clean_wf
  | (with_reducible apply ep_le) <;> clean_wf
  | (with_reducible apply ep_gt) <;> clean_wf
  | (with_reducible apply ep_ge) <;> clean_wf
  | (with_reducible apply ep_eqi) <;> clean_wf
  | (with_reducible apply ep_nei) <;> clean_wf
  | (with_reducible apply ep_not) <;> clean_wf
  | ((with_reducible apply ep_and) <;> first | (intro _; clean_wf; done) | clean_wf)
  | ((with_reducible apply ep_or) <;> first | (intro _; clean_wf; done) | clean_wf)
  | (with_reducible apply et_t) <;> clean_wf
  | (with_reducible apply eo_is) <;> clean_wf
  | with_reducible exact eo_no
  | array_get_dec
  | bv_omega
  | rfl
  | skip)
local macro_rules | `(tactic| symm_saturate) => `(tactic| first
  | ((with_reducible apply q_set); (focus (clean_wf; done)))
  | ((with_reducible apply s_set); (focus (clean_wf; done)))
  | ((with_reducible apply q_aug (hx := rfl)); (focus (clean_wf; done)))
  | ((with_reducible apply s_aug (hx := rfl)); (focus (clean_wf; done)))
  | ((with_reducible apply q_augC (hx := rfl)); (focus (clean_wf; done)))
  | ((with_reducible apply s_augC (hx := rfl)); (focus (clean_wf; done))))
local macro_rules | `(tactic| subst_eqs) => `(tactic| repeat' (first
  | with_reducible apply w_c
  | ((with_reducible apply w_v'); (focus rfl))
  | with_reducible apply w_op
  | with_reducible apply w_cb
  | with_reducible apply w_cons
  | with_reducible apply w_nil
  | with_reducible apply r_add
  | with_reducible apply r_sub
  | ((with_reducible apply r_mul); (focus (bv_omega; done)))
  | ((with_reducible apply r_div); (focus (bv_omega; done)))
  | ((with_reducible apply r_mod); (focus (bv_omega; done)))
  | ((with_reducible apply r_pow); (focus (bv_omega; done)))
  | with_reducible apply r_lt
  | with_reducible apply r_le
  | with_reducible apply r_gt
  | with_reducible apply r_ge
  | with_reducible apply r_min
  | with_reducible apply r_max
  | with_reducible apply r_intB
  | ((with_reducible apply r_len); (focus (array_get_dec; done)))
  | with_reducible apply w_callW
  | with_reducible apply q_setW
  | with_reducible apply s_setW
  | with_reducible apply s_retW))

theorem zl_perm {ns : List Int} {acc : List Nat} (p : ns.Perm (zl acc)) : ∃ l : List Nat, ns = zl l ∧ l.Perm acc := by
  refine ⟨ns.map Int.toNat, ?_, ?_⟩
  · have h : ∀ x ∈ ns, 0 ≤ x := fun x hx => by
      obtain ⟨y, _, rfl⟩ := List.mem_map.mp (p.mem_iff.mp hx)
      omega
    clear p
    induction ns with
    | nil => rfl
    | cons a l ih =>
      simp only [zl, List.map_cons] at ih ⊢
      rw [← ih fun x hx => h x (List.mem_cons_of_mem _ hx), Int.toNat_of_nonneg (h a List.mem_cons_self)]
  · have := p.map Int.toNat
    rw [show (zl acc).map Int.toNat = acc by simp [zl, Function.comp_def]] at this
    exact this
theorem zl_le {l : List Nat} (h : (zl l).Pairwise (· ≤ ·)) : l.Pairwise (· ≤ ·) := by
  rw [zl, List.pairwise_map] at h
  exact h.imp fun z => by omega
theorem zl_len (l : List Nat) : (zl l).length = l.length := List.length_map _
theorem zv_len (l : List Nat) : (zv l).length = l.length := by simp
theorem zv_get {l : List Nat} {i x : Nat} (h : l[i]? = some x) : (zv l)[i]? = some (.int (x : Int)) := by simp [h]
theorem zv_app (l m : List Nat) : zv (l ++ m) = zv l ++ zv m := by simp
theorem zv_at {l : List Nat} {i : Nat} (h : i < l.length) : atI (zv l) (i : Int) = some (.int ((l[i] : Nat) : Int)) := at_of rfl (zv_get (List.getElem?_eq_getElem h))
theorem List.eraseIdx_mapL {α β : Type} (f : α → β) : ∀ (l : List α) (i : Nat), (l.map f).eraseIdx i = (l.eraseIdx i).map f
  | [], _ => rfl
  | _ :: _, 0 => rfl
  | a :: l, i + 1 => by simp [List.eraseIdx_mapL f l i]
theorem erase_perm : ∀ {l : List Nat} {i : Nat} (h : i < l.length), l.Perm (l[i] :: l.eraseIdx i)
  | a :: l, 0, _ => .refl _
  | a :: l, i + 1, h => by
    have h' : i < l.length := by simpa using h
    exact ((erase_perm h').cons a).trans (.swap ..)
section
variable {K : PySem.W.Frag} {σ : L2.St} {H : Hp} {ta te : TE} {Q : VK}
theorem r_sortN {p : Addr} {acc : List Nat} (s : SqL K H p (zv acc)) (k : ∀ (l : List Nat) q, l.Perm acc → l.Pairwise (· ≤ ·) → H q = none → Q (.ref q) (upd H q (.lst (zv l)))) : rSortedI K [.ref p] H Q :=
  ⟨p, zl acc, rfl, s, fun ns' q hp hs hn => by
    obtain ⟨l, rfl, h⟩ := zl_perm hp
    exact k l q h (zl_le hs) hn⟩
theorem seq_ix {n : Nat} {i : Int} (h0 : 0 ≤ i) (h1 : i < n) : seqIndex? i n = some i.toNat := by
  obtain ⟨k, rfl⟩ : ∃ k : Nat, i = (k : Int) := ⟨i.toNat, by omega⟩
  unfold seqIndex?
  have h2 : k < n := by omega
  have h3 : ¬ (k : Int) < 0 := by omega
  simp [h2, h3]
theorem w_pop {a : Addr} {xs : List V} {t : TA} (ha : Ev ta σ H (.ref a)) (hx : SqL K H a xs) (ht : t σ H fun vs H2 => ∃ (ys : List V) (i : Int) (y : V), vs = [.int i] ∧ H2 a = some (.lst ys) ∧ 0 ≤ i ∧ i < ys.length ∧ i < 2 ^ 60 ∧ ys[i.toNat]? = some y ∧ Q y (upd H2 a (.lst (ys.eraseIdx i.toNat)))) (mono : ∀ Q1 Q2 : List V → Hp → Prop, (∀ v H1, Q1 v H1 → Q2 v H1) → t σ H Q1 → t σ H Q2) : tBM K "list" rPopAt ta t σ H Q :=
  ha _ ⟨.inl ⟨rfl, _, hx⟩, mono _ _ (fun vs H2 z => by
    obtain ⟨ys, i, y, rfl, h1, h2, h3, h4, h5, q⟩ := z
    exact ⟨a, ys, i, i.toNat, y, rfl, rfl, h1, by omega, by omega, seq_ix h2 h3, h5, q⟩) ht⟩
theorem w_popR {a : Addr} {xs : List V} {t : TA} (ha : Ev ta σ H (.ref a)) (hx : SqL K H a xs) (ht : t σ H fun vs H2 => rPopAt (.ref a) vs H2 Q) : tBM K "list" rPopAt ta t σ H Q := ha _ ⟨.inl ⟨rfl, _, hx⟩, ht⟩
theorem r_popN {a : Addr} {l : List Nat} {i : Nat} (h : H a = some (.lst (zv l))) (hi : i < l.length) (hz : i < 1000000) (k : Q (.int ((l[i] : Nat) : Int)) (upd H a (.lst (zv (l.eraseIdx i))))) : rPopAt (.ref a) [.int (i : Int)] H Q :=
  ⟨a, zv l, i, i, _, rfl, rfl, h, by omega, by omega, by rw [seq_ix (by omega) (by rw [zv_len]; omega)]; simp, zv_get (List.getElem?_eq_getElem hi), by
    have e : (zv l).eraseIdx i = zv (l.eraseIdx i) := by rw [zv, zl, List.map_map, List.eraseIdx_mapL, zv, zl, List.map_map]
    rw [e]
    exact k⟩
end
theorem pr_up : PR.Pairwise (· < ·) := by decide
/-! ### the bound of a row -/
def topN (row : List Nat) : Nat := if 4 < row.length then 10 ^ 9 else 10 ^ 18
theorem top_fits {row : List Nat} (w : Rw row) {b : Nat} (h : b ≤ topN row) : Fits row b := by
  unfold topN at h
  unfold Fits
  have := w.le
  split at h <;> omega
theorem top_ge {row : List Nat} : 10 ^ 9 ≤ topN row ∧ topN row ≤ 10 ^ 18 := by unfold topN; split <;> omega
def ten (k : Nat) : Str := PySem.Str.ofString "1" ++ Txt.mul (PySem.Str.ofString "0") (k : Int)
theorem ten_all : ∀ k : Fin 40, PySem.intText? (ten k) = some ((10 : Int) ^ (k : Nat)) ∧ (ten k).length ≤ 640 ∧ (PySem.Str.ofString "1").length + (Txt.mul (PySem.Str.ofString "0") ((k : Nat) : Int)).length ≤ 1000 := by decide +kernel
theorem ten_mul (k : Nat) (h : k < 40) : MulOk (PySem.Str.ofString "0") (k : Int) := PyProof.Rows.mulOk_of 1 40 (by decide +kernel) (by omega) (by omega) (by decide) (by decide)
theorem r_ten {σ : L2.St} {H : Hp} {Q : VK} {k : Nat} (hk : k < 40) (q : Q (.int (10 ^ k)) H) : oRepS (.str (PySem.Str.ofString "0")) (.int (k : Int)) H fun y H2 => oCatS (.str (PySem.Str.ofString "1")) y H2 fun x H3 => tNil σ H3 fun xs H4 => cIntS (x :: xs) H4 Q := by
  obtain ⟨h1, h2, h3⟩ := ten_all ⟨k, hk⟩
  exact ⟨_, (k : Int), rfl, rfl, ten_mul k hk, _, _, rfl, rfl, Nat.le_trans h3 (by decide), ten k, _, rfl, h1, h2, q⟩
def strLen (n : Nat) : Nat := (PySem.Str.ofString (toString (n : Int))).length
structure TopOk (top : Nat) : Prop where
  pos : 0 < top
  le : top ≤ 10 ^ 18
  l2 : 2 ≤ strLen top
  l40 : strLen top ≤ 20
theorem top6 : TopOk (10 ^ 6) := ⟨by decide, by decide, by decide +kernel, by decide +kernel⟩
theorem top9 : TopOk (10 ^ 9) := ⟨by decide, by decide, by decide +kernel, by decide +kernel⟩
theorem top18 : TopOk (10 ^ 18) := ⟨by decide, by decide, by decide +kernel, by decide +kernel⟩
theorem topN_ok {row : List Nat} : TopOk (topN row) := by
  unfold topN
  split
  · exact top9
  · exact top18
theorem r_strlen {H : Hp} {Q : VK} {σ : L2.St} {top : Nat} (t : TopOk top) (q : Q (.int (strLen top : Int)) H) : cStr [.int (top : Int)] H fun x H1 => tNil σ H1 fun xs H2 => cLenS (x :: xs) H2 Q := by
  refine ⟨_, rfl, ?_, _, rfl, ?_, q⟩
  · have h1 := t.le
    have h0 := t.pos
    show ((top : Int).natAbs).log2 < 1920
    rw [Int.natAbs_natCast]
    have : top.log2 < 60 := (Nat.log2_lt (by omega)).mpr (by omega)
    omega
  · exact Nat.le_trans t.l40 (by decide)
end Px
set_option linter.all false
set_option maxHeartbeats 1000000
namespace MA
/-! ### one prime more, place by place -/
structure Gr (r L : List Nat) (p b : Nat) (F : List Nat) (k : Nat) : Prop where
  nd : F.Nodup
  made : ∀ y ∈ F, Mk (p :: r) y ∧ y ≤ b
  hL : ∀ y ∈ L, y ∈ F
  done : ∀ j x, j < k → F[j]? = some x → x * p ≤ b → x * p ∈ F
  from_ : ∀ y ∈ F, y ∈ L ∨ ∃ j x, j < k ∧ F[j]? = some x ∧ y = x * p
theorem Gr.start {r L : List Nat} {p b : Nat} (h : IsAll r b L) : Gr r L p b L 0 := ⟨h.1, fun y hy => ⟨mk_mono (fun _ z => List.mem_cons_of_mem _ z) ((h.2 y).mp hy).1, ((h.2 y).mp hy).2⟩, fun _ h => h, fun j x h => by omega, fun y hy => .inl hy⟩
theorem Gr.stay {r L F : List Nat} {p b k x : Nat} (g : Gr r L p b F k) (hx : F[k]? = some x) (h : ¬ x * p ≤ b) : Gr r L p b F (k + 1) := ⟨g.nd, g.made, g.hL, fun j y hj hy hb => by
  by_cases e : j = k
  · subst e; rw [hx] at hy; cases hy; exact absurd hb h
  · exact g.done j y (by omega) hy hb, fun y hy => by
  rcases g.from_ y hy with z | ⟨j, x, h1, h2, h3⟩
  · exact .inl z
  · exact .inr ⟨j, x, by omega, h2, h3⟩⟩
theorem Gr.grow {r L F : List Nat} {p b k x : Nat} (g : Gr r L p b F k) (gd : Good (p :: r)) (h0 : IsAll r b L) (hx : F[k]? = some x) (h : x * p ≤ b) : Gr r L p b (F ++ [x * p]) (k + 1) := by
  have hk := (List.getElem?_eq_some_iff.mp hx).1
  have hp := gd.head
  have keep : ∀ j y, F[j]? = some y → (F ++ [x * p])[j]? = some y := fun j y hj => by rw [List.getElem?_append_left (List.getElem?_eq_some_iff.mp hj).1]; exact hj
  refine ⟨?_, fun y hy => ?_, fun y hy => List.mem_append_left _ (g.hL y hy), fun j y hj hy hb => ?_, fun y hy => ?_⟩
  · rw [List.nodup_append]
    refine ⟨g.nd, by simp, fun a ha c hc e => ?_⟩
    rw [List.mem_singleton] at hc
    subst e hc
    rcases g.from_ _ ha with z | ⟨j, x', h1, h2, h3⟩
    · exact gd.ndvd ((h0.2 _).mp z).1 ⟨x, Nat.mul_comm _ _⟩
    · have e : x = x' := Nat.eq_of_mul_eq_mul_right (by omega) h3
      subst e
      have := (List.getElem?_inj (by have := (List.getElem?_eq_some_iff.mp h2).1; omega) g.nd).mp (h2.trans hx.symm)
      omega
  · rcases List.mem_append.mp hy with z | z
    · exact g.made y z
    · rw [List.mem_singleton] at z
      subst z
      exact ⟨by rw [Nat.mul_comm]; exact .mul List.mem_cons_self (g.made x (List.mem_of_getElem? hx)).1, h⟩
  · by_cases hjk : j < k
    · have hj' : j < F.length := by omega
      rw [List.getElem?_append_left hj'] at hy
      exact List.mem_append_left _ (g.done j y hjk hy hb)
    · have e : j = k := by omega
      subst e
      rw [List.getElem?_append_left hk, hx] at hy
      cases hy
      exact List.mem_append_right _ (by simp)
  · rcases List.mem_append.mp hy with z | z
    · rcases g.from_ y z with z | ⟨j, x', h1, h2, h3⟩
      · exact .inl z
      · exact .inr ⟨j, x', by omega, keep j x' h2, h3⟩
    · exact .inr ⟨k, x, by omega, keep k x hx, List.mem_singleton.mp z⟩
theorem Gr.len {r L F : List Nat} {p b k : Nat} (g : Gr r L p b F k) : F.length ≤ cnt (p :: r) b := cnt_le g.nd g.made
theorem Gr.fin {r L F : List Nat} {p b : Nat} (g : Gr r L p b F F.length) (gd : Good (p :: r)) (h0 : IsAll r b L) : IsAll (p :: r) b F := MA.grow gd h0 g.nd g.made g.hL fun x hx hb => by
  obtain ⟨j, hj⟩ := List.mem_iff_getElem?.mp hx
  exact g.done j x (List.getElem?_eq_some_iff.mp hj).1 hj hb
/-! ### the rows' first part, prime by prime -/
theorem take_perm {row : List Nat} {i p : Nat} (h : row[i]? = some p) : (row.take (i + 1)).Perm (p :: row.take i) := by
  rw [List.take_add_one, h]
  exact List.perm_append_comm
theorem take_good {row : List Nat} {i p : Nat} (g : Good row) (h : row[i]? = some p) : Good (p :: row.take i) := (g.sub (List.take_sublist (i + 1) row)).perm (take_perm h).symm
theorem take_all {row F : List Nat} {i p b : Nat} (h : row[i]? = some p) (a : IsAll (p :: row.take i) b F) : IsAll (row.take (i + 1)) b F := a.congr fun q => (take_perm h).symm.mem_iff
theorem take_cnt {row : List Nat} {i p b : Nat} (h : row[i]? = some p) : cnt (p :: row.take i) b ≤ cnt row b := cnt_row fun q hq => List.mem_of_mem_take ((take_perm h).symm.mem_iff.mp hq)
/-! ### powers counted -/
theorem pwl_div {p b x : Nat} (hx : 0 < x) (hp : 2 ≤ p) : ∀ y, 0 < y → (pwl p b (x * y)).length = (pwl p (b / x) y).length := by
  intro y
  induction y using pwl.induct p (b / x) with
  | case1 y h ih =>
    intro hy
    have h1 : x * y ≤ b := by rw [Nat.mul_comm]; exact (Nat.le_div_iff_mul_le hx).mp h.2.2
    rw [pwl_yes hp hy h.2.2, pwl_yes hp (Nat.mul_pos hx hy) h1, List.length_cons, List.length_cons, Nat.mul_assoc, ih (Nat.mul_pos hy (by omega))]
  | case2 y h =>
    intro hy
    have h1 : ¬ y ≤ b / x := fun z => h ⟨hp, hy, z⟩
    have h2 : ¬ x * y ≤ b := fun z => h1 ((Nat.le_div_iff_mul_le hx).mpr (by rw [Nat.mul_comm]; exact z))
    rw [pwl_no (by omega), pwl_no (by omega)]
theorem pwl_div1 {p b x : Nat} (hx : 0 < x) (hp : 2 ≤ p) : (pwl p b x).length = (pwl p (b / x) 1).length := by
  have := pwl_div (b := b) hx hp 1 (by omega)
  rwa [Nat.mul_one] at this
/-! ### next, last -/
structure Gn (p b x y : Nat) : Prop where
  pw : ∃ k, y = x * p ^ k
  gt : b < y * p
  le : x ≤ b → y ≤ b
theorem Gn.ge {p b x y : Nat} (g : Gn p b x y) (hp : 2 ≤ p) : x ≤ y := by
  obtain ⟨k, rfl⟩ := g.pw
  exact Nat.le_mul_of_pos_right _ (Nat.pow_pos (by omega))
/-- the least power that is enough -/
theorem Gn.least {p b x y : Nat} (g : Gn p b x y) (hp : 2 ≤ p) (hxb : x ≤ b) (hx : 0 < x) {k : Nat} (h : b < x * p ^ k) : y * p ≤ x * p ^ k := by
  obtain ⟨⟨j, rfl⟩, gt, le⟩ := g
  have h1 := le hxb
  have hj : j < k := by
    rcases Nat.lt_or_ge j k with z | z
    · exact z
    · have : x * p ^ k ≤ x * p ^ j := Nat.mul_le_mul_left x (Nat.pow_le_pow_right (by omega) z)
      omega
  rw [Nat.mul_assoc, ← Nat.pow_succ]
  exact Nat.mul_le_mul_left x (Nat.pow_le_pow_right (by omega) hj)
theorem Gn.most {p b x y : Nat} (g : Gn p b x y) (hp : 2 ≤ p) (hx : 0 < x) {k : Nat} (h : x * p ^ k ≤ b) : x * p ^ k ≤ y := by
  obtain ⟨⟨j, rfl⟩, gt, le⟩ := g
  have hj : k ≤ j := by
    rcases Nat.lt_or_ge j k with z | z
    · have : x * p ^ (j + 1) ≤ x * p ^ k := Nat.mul_le_mul_left x (Nat.pow_le_pow_right (by omega) z)
      rw [Nat.pow_succ, ← Nat.mul_assoc] at this
      omega
    · exact z
  exact Nat.mul_le_mul_left x (Nat.pow_le_pow_right (by omega) hj)
theorem pow_le_self {x p k : Nat} (hp : 2 ≤ p) : x ≤ x * p ^ k := Nat.le_mul_of_pos_right _ (Nat.pow_pos (by omega))
/-- the best of all rests -/
theorem next_of {p : Nat} {r L : List Nat} {n b0 best : Nat} (g : Good (p :: r)) (hL : IsAll r b0 L) (h0 : Mk (p :: r) b0) (hb0 : n < b0) (hm : Mk (p :: r) best) (hg : n < best) (hle : best ≤ b0)
    (hall : ∀ x ∈ L, ∀ k, n < x * p ^ k → best ≤ x * p ^ k) : IsNext (p :: r) n best := ⟨hm, hg, fun m hmk hnm => by
  rcases Nat.lt_or_ge b0 m with z | z
  · omega
  · obtain ⟨k, x, rfl, hx⟩ := mk_cons.mp hmk
    exact hall x ((hL.2 x).mpr ⟨hx, Nat.le_trans (pow_le_self g.head) z⟩) k hnm⟩
theorem last_of {p : Nat} {r L : List Nat} {n best : Nat} (g : Good (p :: r)) (hL : IsAll r (n - 1) L) (hm : Mk (p :: r) best) (hg : best < n) (hall : ∀ x ∈ L, ∀ k, x * p ^ k ≤ n - 1 → x * p ^ k ≤ best) : IsLast (p :: r) n best := ⟨hm, hg, fun m hmk hnm => by
  obtain ⟨k, x, rfl, hx⟩ := mk_cons.mp hmk
  exact hall x ((hL.2 x).mpr ⟨hx, Nat.le_trans (pow_le_self (k := k) g.head) (by omega)⟩) k (by omega)⟩
theorem next_le {row : List Nat} {n m p : Nat} (h : IsNext row n m) (hn : Mk row n) (hp : p ∈ row) (h2 : 2 ≤ p) (hpos : 0 < n) : m ≤ n * p := h.le _ (by rw [Nat.mul_comm]; exact .mul hp hn) (by have : n * 2 ≤ n * p := Nat.mul_le_mul_left n h2; omega)
/-- a power of a prime of the row is never far -/
theorem next_far {row : List Nat} {n m p : Nat} (g : Good row) (h : IsNext row n m) (hp : p ∈ row) (hn : 0 < n) : m ≤ n * p := by
  have h2 := g.ge p hp
  have key : ∀ k, p ^ k ≤ n → ∃ j, p ^ j ≤ n ∧ n < p ^ (j + 1) := by
    intro k
    generalize e : n - p ^ k = d
    induction d using Nat.strongRecOn generalizing k with
    | ind d ih =>
      intro hk
      by_cases h3 : p ^ (k + 1) ≤ n
      · have h4 : p ^ k * 2 ≤ p ^ (k + 1) := by rw [Nat.pow_succ]; exact Nat.mul_le_mul_left _ h2
        have h5 : 0 < p ^ k := Nat.pow_pos (by omega)
        exact ih (n - p ^ (k + 1)) (by omega) (k + 1) rfl h3
      · exact ⟨k, hk, by omega⟩
  obtain ⟨j, h3, h4⟩ := key 0 (by rw [Nat.pow_zero]; exact hn)
  refine Nat.le_trans (h.le _ (mk_pow hp (j + 1)) h4) ?_
  rw [Nat.pow_succ]
  exact Nat.mul_le_mul_right p h3
/-! ### the first so many -/
def IsFst (row : List Nat) (m : Nat) (l : List Nat) : Prop := (m = 0 ∧ l = []) ∨ ∃ c, Mk row c ∧ cnt row c = m ∧ l = allL row c
theorem IsFst.len {row l : List Nat} {m : Nat} (h : IsFst row m l) : l.length = m := by
  rcases h with ⟨rfl, rfl⟩ | ⟨c, _, rfl, rfl⟩
  · rfl
  · rfl
theorem mk_inj {row : List Nat} {a b : Nat} (ha : Mk row a) (hb : Mk row b) (e : cnt row a = cnt row b) : a = b := by
  rcases Nat.lt_trichotomy a b with z | z | z
  · have := cnt_lt z hb; omega
  · exact z
  · have := cnt_lt z ha; omega
theorem IsFst.uniq {row l l' : List Nat} {m : Nat} (g : ∀ p ∈ row, 2 ≤ p) (h : IsFst row m l) (h' : IsFst row m l') : l = l' := by
  rcases h with ⟨rfl, rfl⟩ | ⟨c, h1, h2, rfl⟩
  · have := h'.len
    exact (List.length_eq_zero_iff.mp this).symm
  · rcases h' with ⟨rfl, rfl⟩ | ⟨c', h1', h2', rfl⟩
    · have := cnt_pos (row := row) (mk_pos g h1); omega
    · rw [mk_inj h1 h1' (h2.trans h2'.symm)]
theorem allL_last {row : List Nat} {c : Nat} (h : Mk row c) (h0 : 0 < c) : allL row c = allL row (c - 1) ++ [c] := by
  cases c with
  | zero => omega
  | succ c => exact allL_succ_yes h
theorem allL_next {row : List Nat} {n m : Nat} (h : IsNext row n m) : allL row m = allL row n ++ [m] := by
  have := h.gt
  rw [allL_last h.made (by omega), allL_gap (row := row) (a := n) (b := m - 1) (by omega) fun k h1 h2 hk => by have := h.le k hk h1; omega]
theorem get_lt {l : List Nat} (h : l.Pairwise (· < ·)) {i j x y : Nat} (hi : l[i]? = some x) (hj : l[j]? = some y) (hij : i < j) : x < y := by
  obtain ⟨h1, rfl⟩ := List.getElem?_eq_some_iff.mp hi
  obtain ⟨h2, rfl⟩ := List.getElem?_eq_some_iff.mp hj
  exact List.pairwise_iff_getElem.mp h i j h1 h2 hij
structure FS (row F pl : List Nat) (c : Nat) : Prop where
  mkc : Mk row c
  eq : F = allL row c
  len : pl.length = row.length
  ok : ∀ j p k : Nat, row[j]? = some p → pl[j]? = some k → ∃ x, F[k]? = some x ∧ c < x * p ∧ ∀ i y : Nat, i < k → F[i]? = some y → y * p ≤ c
theorem FS.start {row : List Nat} (g : ∀ p ∈ row, 2 ≤ p) : FS row [1] (List.replicate row.length 0) 1 := ⟨.one, by
  have : allL row 1 = allL row 0 ++ [1] := allL_succ_yes .one
  rw [this, show allL row 0 = [] from List.length_eq_zero_iff.mp (cnt_zero g)]; rfl, by simp, fun j p k h1 h2 => by
  rw [List.getElem?_replicate] at h2
  split at h2
  · cases h2
    have := g p (List.mem_of_getElem? h1)
    exact ⟨1, rfl, by omega, fun i y hi => by omega⟩
  · cases h2⟩
/-- the least of the products is the next one -/
theorem FS.next {row F pl : List Nat} {c m : Nat} (g : Good row) (f : FS row F pl c) (hm : ∃ j p k x : Nat, row[j]? = some p ∧ pl[j]? = some k ∧ F[k]? = some x ∧ m = x * p) (hle : ∀ j p k x : Nat, row[j]? = some p → pl[j]? = some k → F[k]? = some x → m ≤ x * p) : IsNext row c m := by
  obtain ⟨j, p, k, x, h1, h2, h3, rfl⟩ := hm
  obtain ⟨x', e1, e2, e3⟩ := f.ok j p k h1 h2
  rw [h3] at e1
  cases e1
  have hF : ∀ y ∈ F, Mk row y ∧ y ≤ c := fun y hy => by rw [f.eq] at hy; exact allL_mem.mp hy
  refine ⟨by rw [Nat.mul_comm]; exact .mul (List.mem_of_getElem? h1) (hF x (List.mem_of_getElem? h3)).1, e2, fun n hn hcn => ?_⟩
  have hc0 := mk_pos g.ge f.mkc
  obtain ⟨q, hq, n', rfl, hn'⟩ := mk_step hn (by omega)
  obtain ⟨i, hi⟩ := List.mem_iff_getElem?.mp hq
  have hil : i < pl.length := by rw [f.len]; exact (List.getElem?_eq_some_iff.mp hi).1
  obtain ⟨z, hz1, hz2, hz3⟩ := f.ok i q pl[i] hi (List.getElem?_eq_getElem hil)
  refine Nat.le_trans (hle i q pl[i] z hi (List.getElem?_eq_getElem hil) hz1) ?_
  rw [Nat.mul_comm q]
  refine Nat.mul_le_mul_right q ?_
  -- z ≤ n'
  rcases Nat.lt_or_ge c n' with h | h
  · have := (hF z (List.mem_of_getElem? hz1)).2; omega
  · have hmem : n' ∈ F := by rw [f.eq]; exact allL_mem.mpr ⟨hn', h⟩
    obtain ⟨t, ht⟩ := List.mem_iff_getElem?.mp hmem
    rcases Nat.lt_trichotomy t pl[i] with e | e | e
    · have := hz3 t n' e ht
      rw [Nat.mul_comm] at this
      omega
    · rw [e, hz1] at ht; cases ht; omega
    · have := get_lt (by rw [f.eq]; exact allL_pair _ _) hz1 ht e
      omega
theorem FS.step {row F pl pl' : List Nat} {c m : Nat} (f : FS row F pl c) (h : IsNext row c m) (hlen : pl'.length = pl.length) (hpl : ∀ j p k x : Nat, row[j]? = some p → pl[j]? = some k → F[k]? = some x → pl'[j]? = some (if x * p = m then k + 1 else k)) (hle : ∀ j p k x : Nat, row[j]? = some p → pl[j]? = some k → F[k]? = some x → m ≤ x * p) (g2 : ∀ p ∈ row, 2 ≤ p) : FS row (F ++ [m]) pl' m := by
  have eq : F ++ [m] = allL row m := by rw [allL_next h, f.eq]
  refine ⟨h.made, eq, by rw [hlen, f.len], fun j p k' h1 h2 => ?_⟩
  have hj : j < pl.length := by rw [f.len]; exact (List.getElem?_eq_some_iff.mp h1).1
  obtain ⟨x, e1, e2, e3⟩ := f.ok j p pl[j] h1 (List.getElem?_eq_getElem hj)
  have hp2 := g2 p (List.mem_of_getElem? h1)
  rw [hpl j p pl[j] x h1 (List.getElem?_eq_getElem hj) e1] at h2
  have hkl : pl[j] < F.length := (List.getElem?_eq_some_iff.mp e1).1
  have up : (F ++ [m]).Pairwise (· < ·) := by rw [eq]; exact allL_pair _ _
  have hx1 : (F ++ [m])[pl[j]]? = some x := by rw [List.getElem?_append_left hkl]; exact e1
  have old : ∀ i y, i < pl[j] → (F ++ [m])[i]? = some y → y * p ≤ c := fun i y hi hy => by
    rw [List.getElem?_append_left (by omega)] at hy
    exact e3 i y hi hy
  have hcm := h.gt
  by_cases e : x * p = m
  · rw [if_pos e] at h2
    cases h2
    have hl2 : pl[j] + 1 < (F ++ [m]).length := by simp; omega
    refine ⟨_, List.getElem?_eq_getElem hl2, ?_, fun i y hi hy => ?_⟩
    · have := get_lt up hx1 (List.getElem?_eq_getElem hl2) (by omega)
      have h5 := Nat.mul_lt_mul_of_pos_right this (show 0 < p by omega)
      omega
    · by_cases hi2 : i = pl[j]
      · subst hi2
        rw [hx1] at hy
        cases hy
        omega
      · have := old i y (by omega) hy
        omega
  · rw [if_neg e] at h2
    cases h2
    refine ⟨x, hx1, ?_, fun i y hi hy => ?_⟩
    · have := hle j p pl[j] x h1 (List.getElem?_eq_getElem hj) e1
      omega
    · have := old i y hi hy; omega
theorem FS.flen {row F pl : List Nat} {c : Nat} (f : FS row F pl c) : F.length = cnt row c := by rw [f.eq]; rfl
/-- the so-manieth is no greater than a bound to which there are so many -/
theorem fst_le {row : List Nat} {c m T : Nat} (hc : Mk row c) (h : cnt row c ≤ m) (hm : m ≤ cnt row T) : c ≤ T := by
  rcases Nat.lt_or_ge T c with z | z
  · have := cnt_lt z hc; omega
  · exact z
theorem Fits.lt {row : List Nat} {b : Nat} (f : Fits row b) : b < 2 ^ 70 := by unfold Fits at f; omega
theorem IsAll.sorted {row l : List Nat} {b : Nat} (h : IsAll row b l) {l' : List Nat} (p : l'.Perm l) (s : l'.Pairwise (· ≤ ·)) : l' = allL row b :=
  (h.of_perm p).eq ((s.and (h.of_perm p).1).imp fun {x y} z => by have := z.1; have := z.2; omega)
end MA
set_option Elab.async false
set_option linter.all false
set_option maxRecDepth 100000
set_option maxHeartbeats 4000000
namespace Px
open PySem L2 MA
local macro_rules | `(tactic| bv_omega) => `(tactic| first | assumption | omega | exact cm (by omega) | exact cd (by omega) | exact cp (by omega) | exact trivial)
local macro_rules | `(tactic| array_get_dec) => `(tactic| first
  | assumption
  | exact sq_up
  | exact Own.sqi (by assumption) 0 (by rfl)
  | exact Own.sqi (by assumption) 1 (by rfl)
  | exact Own.sqi (by assumption) 2 (by rfl)
  | exact Own.sqi (by assumption) 3 (by rfl)
  | exact Own.sqi (by assumption) 4 (by rfl)
  | exact Own.sq (by assumption) (by assumption)
  | exact sq_new (by assumption) (by assumption))
local macro_rules | `(tactic| clean_wf) => `(tactic| first
  | with_reducible exact ev_c
  | (with_reducible apply ev_v') <;> rfl
  | (with_reducible apply ev_add) <;> clean_wf
  | (with_reducible apply ev_sub) <;> clean_wf
  | (with_reducible apply ev_mul) <;> clean_wf
  | (with_reducible apply ev_mod) <;> clean_wf
  | (with_reducible apply ev_div) <;> clean_wf
  | (with_reducible apply ev_pow) <;> clean_wf
  | (with_reducible apply ev_neg) <;> clean_wf
  | (with_reducible apply ev_lt) <;> clean_wf
  | (with_reducible apply ev_le) <;> clean_wf
  | (with_reducible apply ev_gt) <;> clean_wf
  | (with_reducible apply ev_ge) <;> clean_wf
  | (with_reducible apply ev_eqi) <;> clean_wf
  | (with_reducible apply ev_nei) <;> clean_wf
  | (with_reducible apply ev_len) <;> clean_wf
  | (with_reducible apply ev_ixL) <;> clean_wf
  | (with_reducible apply ev_min) <;> clean_wf
  | (with_reducible apply ev_max) <;> clean_wf
  | (with_reducible apply ev_abs) <;> clean_wf
  | (with_reducible apply ev_intB) <;> clean_wf
  | (with_reducible apply ea_1) <;> clean_wf
  | (with_reducible apply ea_2) <;> clean_wf
  | (with_reducible apply ea_3) <;> clean_wf
  | with_reducible exact ea_nil
  | (with_reducible apply ea_cons) <;> clean_wf
  | with_reducible exact el_nil
  | (with_reducible apply ep_lt) <;> clean_wf
  | (with_reducible apply ep_le) <;> clean_wf
  | (with_reducible apply ep_gt) <;> clean_wf
  | (with_reducible apply ep_ge) <;> clean_wf
  | (with_reducible apply ep_eqi) <;> clean_wf
  | (with_reducible apply ep_nei) <;> clean_wf
  | (with_reducible apply ep_not) <;> clean_wf
  | ((with_reducible apply ep_and) <;> first | (intro _; clean_wf; done) | clean_wf)
  | ((with_reducible apply ep_or) <;> first | (intro _; clean_wf; done) | clean_wf)
  | (with_reducible apply et_t) <;> clean_wf
  | (with_reducible apply eo_is) <;> clean_wf
  | with_reducible exact eo_no
  | array_get_dec
  | bv_omega
  | rfl
  | skip)
local macro_rules | `(tactic| symm_saturate) => `(tactic| first
  | ((with_reducible apply q_set); (focus (clean_wf; done)))
  | ((with_reducible apply s_set); (focus (clean_wf; done)))
  | ((with_reducible apply q_aug (hx := rfl)); (focus (clean_wf; done)))
  | ((with_reducible apply s_aug (hx := rfl)); (focus (clean_wf; done)))
  | ((with_reducible apply q_augC (hx := rfl)); (focus (clean_wf; done)))
  | ((with_reducible apply s_augC (hx := rfl)); (focus (clean_wf; done))))
local macro_rules | `(tactic| subst_eqs) => `(tactic| repeat' (first
  | with_reducible apply w_c
  | ((with_reducible apply w_v'); (focus rfl))
  | with_reducible apply w_op
  | with_reducible apply w_cb
  | with_reducible apply w_cons
  | with_reducible apply w_nil
  | with_reducible apply r_add
  | with_reducible apply r_sub
  | ((with_reducible apply r_mul); (focus (bv_omega; done)))
  | ((with_reducible apply r_div); (focus (bv_omega; done)))
  | ((with_reducible apply r_mod); (focus (bv_omega; done)))
  | ((with_reducible apply r_pow); (focus (bv_omega; done)))
  | with_reducible apply r_lt
  | with_reducible apply r_le
  | with_reducible apply r_gt
  | with_reducible apply r_ge
  | with_reducible apply r_min
  | with_reducible apply r_max
  | with_reducible apply r_intB
  | ((with_reducible apply r_len); (focus (array_get_dec; done)))
  | with_reducible apply w_callW
  | with_reducible apply q_setW
  | with_reducible apply s_setW
  | with_reducible apply s_retW))

/-! ### comprehensions over zip -/
def LcAt (J : It) (g : TG) (tt : TT) (te : TE) (vs : List Nat) (σ : L2.St) (Q : VK) (H1 : Hp) : Prop := ∀ D, H1 D = none → ∃ W : Nat → Nat → Hp → Prop, (∃ m, W 0 m (upd H1 D (.lst []))) ∧ ∀ i m H, W i m H →
  (J.stop i H ∧ Q (.ref D) H) ∨ (J.go i H ∧ ∃ Nx : Hp → Prop, (∀ H', Nx H' → ∃ m', m' < m ∧ W (i + 1) m' H') ∧ ∀ x H', J.yld i H x H' → g x (wipe σ vs) H' fun σ2 H2 => wipe σ2 vs = wipe σ vs ∧ tt σ2 H2 fun b H3 =>
    if b = true then te σ2 H3 fun y H4 => ∃ acc, H4 D = some (.lst acc) ∧ acc.length < sizeLine ∧ Nx (upd H4 D (.lst (acc ++ [y]))) else Nx H3)
section
variable {K : PySem.W.Frag} {σ : L2.St} {H H1 : Hp} {ta : TA} {tt : TT} {te : TE} {vs : List Nat} {Q : VK} {a b : Addr} {xs ys : List V} {n1 n2 : Nat}
theorem w_lcZ {g : TG} (h : ta σ H fun us H1 => ∃ a b xs ys, us = [.ref a, .ref b] ∧ SqL K H1 a xs ∧ SqL K H1 b ys ∧ LcAt (Itz K a b) g tt te vs σ Q H1) : tLc (iZip K ta) g tt te vs σ H Q := h
theorem lcat_zip (Pv : Addr → Nat → Hp → Prop) (h0 : ∀ D, H1 D = none → Pv D 0 (upd H1 D (.lst []))) (hl : ∀ D i H', H1 D = none → Pv D i H' → SqL K H' a xs ∧ SqL K H' b ys) (hw : ∀ x y, wipe (((wipe σ vs).set n1 (some x)).set n2 (some y)) vs = wipe σ vs)
    (hs : ∀ D i x y T H', H1 D = none → xs[i]? = some x → ys[i]? = some y → Pv D i H' → H' T = none → tt (((wipe σ vs).set n1 (some x)).set n2 (some y)) (upd H' T (.tup [x, y])) fun c H3 =>
      if c = true then te (((wipe σ vs).set n1 (some x)).set n2 (some y)) H3 fun v H4 => ∃ acc, H4 D = some (.lst acc) ∧ acc.length < sizeLine ∧ Pv D (i + 1) (upd H4 D (.lst (acc ++ [v]))) else Pv D (i + 1) H3)
    (hd : ∀ D H', H1 D = none → Pv D (min xs.length ys.length) H' → Q (.ref D) H') : LcAt (Itz K a b) (gTup K 2 (gCons (gName n1) (gCons (gName n2) gNil))) tt te vs σ Q H1 := fun D hD =>
  lc_it (walk_zip (K := K) (a := a) (b := b) (xs := xs) (ys := ys) rfl) (Pv D) (h0 D hD) (fun i H' _ p => hl D i H' hD p) (fun i v H' H'' hi p y => by
    obtain ⟨T, x, y, rfl, hT, rfl, e1, e2⟩ := y
    exact ⟨T, _, rfl, st_at upd_same, rfl, _, _, rfl, _, _, rfl, rfl, hw x y, hs D i x y T H' hD e1 e2 p hT⟩) (fun H' p => hd D H' hD p)
end
section
variable {K : PySem.W.Frag} {σ : L2.St} {H H1 : Hp} {te tl : TE} {tt : TT} {vs : List Nat} {Q : VK} {a b : Addr} {n : Nat} {g : TG}
theorem w_lcLW (h : tl σ H fun x H1 => ∃ a, x = .ref a ∧ (∃ xs, SqL K H1 a xs) ∧ LcAt (Itl K a) g tt te vs σ Q H1) : tLc (iList K tl) g tt te vs σ H Q := h
/-- [te for i in ns], ns a list of ints that stands at a -/
theorem lcat_map {ns : List Int} (f : Int → Int) (hx : SqL K H1 a (ns.map V.int)) (hz : ns.length ≤ 16000000) (hw : ∀ x, wipe ((wipe σ vs).set n (some x)) vs = wipe σ vs)
    (he : ∀ i ∈ ns, ∀ D acc, H1 D = none → Ev te ((wipe σ vs).set n (some (.int i))) (upd H1 D (.lst acc)) (.int (f i))) (q : ∀ D, H1 D = none → Q (.ref D) (upd H1 D (.lst ((ns.map f).map V.int)))) : LcAt (Itl K a) (gName n) tYes te vs σ Q H1 := by
  obtain ⟨_, e, _, z⟩ := el_lcI (K := K) (H := H1) (tl := fun _ H Q => Q (.ref a) H) (t := tYes) (fun _ => true) f (fun _ z => z) hx hz hw (fun i hi D acc hD => et_yes) (fun i hi _ D acc hD => he i hi D acc hD) Q fun D hD => by
    rw [List.filter_eq_self.mpr (fun _ _ => rfl)]
    exact q D hD
  cases e
  exact z
/-- [te for i in ns if p(i)] -/
theorem lcat_filter {ns : List Int} (p : Int → Bool) (f : Int → Int) (hx : SqL K H1 a (ns.map V.int)) (hz : ns.length ≤ 16000000) (hw : ∀ x, wipe ((wipe σ vs).set n (some x)) vs = wipe σ vs)
    (ht : ∀ i ∈ ns, ∀ D acc, H1 D = none → EvT tt ((wipe σ vs).set n (some (.int i))) (upd H1 D (.lst acc)) (p i)) (he : ∀ i ∈ ns, p i = true → ∀ D acc, H1 D = none → Ev te ((wipe σ vs).set n (some (.int i))) (upd H1 D (.lst acc)) (.int (f i))) (q : ∀ D, H1 D = none → Q (.ref D) (upd H1 D (.lst (((ns.filter p).map f).map V.int)))) : LcAt (Itl K a) (gName n) tt te vs σ Q H1 := by
  obtain ⟨_, e, _, z⟩ := el_lcI (K := K) (H := H1) (tl := fun _ H Q => Q (.ref a) H) (t := tt) p f (fun _ z => z) hx hz hw ht he Q q
  cases e
  exact z
end
/-! ### rows -/
def sp_is_whole (K : PySem.W.Frag) : Sp := fun vs H Q _ => Nod H ∧ ∃ i : Int, vs = [.int i] ∧ Q (.bl true) H
/-- slots: thing -/
abbrev n_is_whole : List Str := ["thing"]
def t_is_whole (K : PySem.W.Frag) : TS := (sFg (tRet (tAndV (tCB (rIsi K) (tCons (tVar 0) (tCons (tC (.ty "int")) tNil))) (tNotV (tCB (rIsi K) (tCons (tVar 0) (tCons (tC (.ty "bool")) tNil)))))))
theorem r_is_whole {K : PySem.W.Frag} {vs : List V} {H : Hp} {Q : VK} {E : XK} (h : sp_is_whole K vs H Q E) : t_is_whole K { nx := fun _ H' => Q .non H', rt := Q } (start n_is_whole vs) H := by
  obtain ⟨nd, i, rfl, q⟩ := h
  exact fg_body (s_ret (ev_and (ev_isi (ev_v 0) ev_c (.ty "int") (.base (.int i)) (kit_ty (r := true) (by decide +kernel))) fun _ => ev_not (ev_isi (ev_v 0) ev_c (.ty "bool") (.base (.int i)) (kit_ty (r := false) (by decide +kernel)))) ⟨H, fg_same ex_refl, q⟩)
def sp_is_row (K : PySem.W.Frag) : Sp := fun vs H Q _ => Nod H ∧ ∃ (a : Addr) (row : List Nat), vs = [.ref a] ∧ H a = some (.lst (zv row)) ∧ Rw row ∧ row ≠ [] ∧ Q (.bl true) H
def PrAt (K : PySem.W.Frag) (aP : Addr) : Prop := ∀ H : Hp, SqL K H aP (zv PR)
/-- slots: thing one further -/
abbrev n_is_row : List Str := ["thing", "one", "further"]
def t_is_row (K : PySem.W.Frag) (a_PRIMES : Addr) : TS := (sFg (tSeq (tIfS (tOr (tNot (tB (tCB (rIsi K) (tCons (tVar 0) (tCons (tC (.ty "list")) tNil))))) (tNot (tTest (tChain oLe oLe (tC (.int 1)) (tCB (cLen K) (tCons (tVar 0) tNil)) (tC (.int 6)))))) (tRet (tC (.bl false))) tNext)
  (tSeq (tIfS (bFg (tTest (tOp (rNeD K) (tLc (iList K (tVar 0)) (gName 1) (tOr (tNot (tB (tCall (sp_is_whole K) [] E0 (tCons (tVar 1) tNil)))) (tTest (tOp (rIn K true) (tVar 1) (tC (.ref a_PRIMES))))) (tVar 1) [1]) (tLst tNil)))) (tRet (tC (.bl false))) tNext)
  (tRet (tFg (tOp (rEqD K) (tFg (tLc (iZip K (tCons (tVar 0) (tCons (tSl (rSlL K) (tVar 0) (tPart (tC (.int 1))) tNoPart) tNil))) (gTup K 2 (gCons (gName 1) (gCons (gName 2) gNil))) (tTest (tOp oLe (tVar 2) (tVar 1))) (tC (.int 1)) [1, 2])) (tLst tNil)))))))
theorem inV_iff {l : List Nat} {p : Nat} : inV (.int (p : Int)) (zv l) = decide (p ∈ l) := by
  induction l with
  | nil => rfl
  | cons a l ih =>
    show (eqV (.int (a : Int)) (.int (p : Int)) || inV (.int (p : Int)) (zv l)) = _
    rw [ih]
    have e : eqV (.int (a : Int)) (.int (p : Int)) = decide (a = p) := by
      show decide ((a : Int) = (p : Int)) = _
      exact decide_eq_decide.mpr (by omega)
    rw [e]
    by_cases h : a = p
    · subst h; simp
    · have h' : ¬ p = a := fun z => h z.symm
      simp [h, h']
theorem zv_0 {p : Nat} {r : List Nat} : atI (zv (p :: r)) 0 = some (.int (p : Int)) := zv_at (i := 0) (l := p :: r) (by simp)
theorem zv_flat (l : List Nat) : (zv l).all flatV = true := by
  rw [List.all_eq_true]
  intro x hx
  obtain ⟨i, _, rfl⟩ := mem_int hx
  rfl
theorem cut_fromN (l : List Nat) (k : Nat) : cutV (zv l) (some (k : Int)) none = zv (l.drop k) := by rw [cut_from]; simp
theorem cut_toN (l : List Nat) (k : Nat) : cutV (zv l) none (some (k : Int)) = zv (l.take k) := by rw [cut_to]; simp
theorem get_up {l : List Nat} (h : l.Pairwise (· < ·)) {i x y : Nat} (hi : l[i]? = some x) (hj : (l.drop 1)[i]? = some y) : x < y := by
  rw [List.getElem?_drop] at hj
  exact get_lt h hi hj (by omega)
theorem r_is_row {K : PySem.W.Frag} {aP : Addr} (hP : PrAt K aP) {vs : List V} {H : Hp} {Q : VK} {E : XK} (h : sp_is_row K vs H Q E) : t_is_row K aP { nx := fun _ H' => Q .non H', rt := Q } (start n_is_row vs) H := by
  obtain ⟨nd, a, row, rfl, ha, w, hne, q⟩ := h
  have sa : SqL K H a (zv row) := sq_at ha
  have hl := w.le
  have hl0 : 0 < row.length := List.length_pos_iff.mpr hne
  refine fg_body (q_never (ep_or (ep_not (ep_b (ev_isi (ev_v 0) ev_c (.ty "list") (.base (.lst ha)) (kit_ty (r := true) (by decide +kernel))))) fun _ => ep_not (ep_chain ev_c (ev_len (ev_v 0) sa) rv_0 (fun _ => ev_c) fun _ => rv_0)) (by rw [zv_len]; simp; omega) ?_)
  refine q_when (b := false) (et_eq (et_nonilN (ns := ((zl row).filter fun _ => false).map fun i => i) (el_lcI (fun _ => false) (fun i => i) (ev_v 0) sa (by rw [zl_len]; omega) (fun _ => rfl) (fun i hi D acc hD => ?_) fun i hi z => nomatch z)) (by simp)) (fun z => nomatch z) fun _ => ?_
  · obtain ⟨p, hp, rfl⟩ := List.mem_map.mp hi
    refine ep_no (ep_or (ep_not (ep_b (ev_call (v := .bl true) (ea_1 (ev_v 1)) fun Q q => ⟨inferInstance, _, rfl, q⟩))) fun _ => ep_of (et_t (ev_op (z := .bl false) (ev_v 1) ev_c fun Q q => ⟨aP, zv PR, rfl, .inl (hP _), rfl, zv_flat _, ?_⟩))) (by simp)
    rw [inV_iff, decide_eq_true (w.mem p hp)]
    exact q
  · refine s_ret (v := .bl true) (ev_fg fun Q q => w_op (el_fg (fun Q q => w_lcZ ?_) _ fun p hp => el_nil _ fun p2 hp2 => rv_eqI (ns := []) (ms := []) (sq_new hp2 sq_up) sq_up _ (q _ (ex_upd (none_upd hp2).1 (ex_new hp))))) ⟨H, fg_same ex_refl, q⟩
    refine w_cons (w_v 0 (w_one (w_evL (el_sl (ev_v 0) (eo_is ev_c) eo_no sa) fun p1 hp1 => ?_)))
    have o : Own H [(p1, zv (row.drop 1))] (upd H p1 (.lst (cutV (zv row) (some 1) none))) := by rw [show (1 : Int) = ((1 : Nat) : Int) from rfl, cut_fromN]; exact Own.nil.new hp1
    refine ⟨a, p1, zv row, zv (row.drop 1), rfl, o.sq sa, o.sqi 0 rfl, lcat_zip (fun D i H' => Own H [(D, []), (p1, zv (row.drop 1))] H') (fun D hD => o.new hD) (fun D i H' hD o => ⟨o.sq sa, o.sqi 1 rfl⟩) (fun x y => rfl) (fun D i x y T H' hD hx hy o hT => ?_) fun D H' hD o => q D H' (o.offI 0 rfl) o.ex (o.atI 0 rfl)⟩
    simp only [List.getElem?_map] at hx hy
    cases e1 : row[i]? with
    | none => rw [e1] at hx; cases hx
    | some x' =>
      cases e2 : (row.drop 1)[i]? with
      | none => rw [e2] at hy; cases hy
      | some y' =>
        rw [e1] at hx
        rw [e2] at hy
        cases hx
        cases hy
        have := get_up w.up e1 e2
        exact ep_no (ep_le (i := (y' : Int)) (j := (x' : Int)) (ev_v 2) (ev_v 1)) (by omega) _ (iteF (o.tup hT))
def sp_need_row (K : PySem.W.Frag) : Sp := fun vs H Q _ => Nod H ∧ ∃ (a : Addr) (row : List Nat), vs = [.ref a] ∧ H a = some (.lst (zv row)) ∧ Rw row ∧ row ≠ [] ∧ Q .non H
/-- slots: row -/
abbrev n_need_row : List Str := ["row"]
def t_need_row (K : PySem.W.Frag) : TS := (sFg (tIfS (tNot (tB (tCall (sp_is_row K) [] E0 (tCons (tVar 0) tNil)))) tNever tNext))
theorem r_need_row {K : PySem.W.Frag} {vs : List V} {H : Hp} {Q : VK} {E : XK} (h : sp_need_row K vs H Q E) : t_need_row K { nx := fun _ H' => Q .non H', rt := Q } (start n_need_row vs) H := by
  obtain ⟨nd, a, row, rfl, ha, w, hne, q⟩ := h
  exact fg_body (s_whenP (ep_not (ep_b (ev_call (v := .bl true) (ea_1 (ev_v 0)) fun Q q => ⟨nd, a, row, rfl, ha, w, hne, q⟩))) (fun z => absurd rfl z) fun _ => ⟨H, fg_same ex_refl, q⟩)
/-! ### made, not made -/
def sp_is_made (K : PySem.W.Frag) : Sp := fun vs H Q _ => Nod H ∧ ∃ (a : Addr) (row : List Nat) (n : Nat), vs = [.ref a, .int (n : Int)] ∧ SqL K H a (zv row) ∧ Rw row ∧ 0 < n ∧ Q (.bl (decide (stripAll row n = 1))) H
/-- slots: row number prime -/
abbrev n_is_made : List Str := ["row", "number", "prime"]
def t_is_made (K : PySem.W.Frag) : TS := (sFg (tSeq (tFor (iList K (tVar 0)) (gName 2) (tWhile (tTest (tOp rEq (tOp oMod (tVar 1) (tVar 2)) (tC (.int 0)))) (tAug 1 (tVar 2) (ipC CDivW fun i j => i / j))))
  (tRet (tOp rEq (tVar 1) (tC (.int 1))))))
theorem r_is_made {K : PySem.W.Frag} {vs : List V} {H : Hp} {Q : VK} {E : XK} (h : sp_is_made K vs H Q E) : t_is_made K { nx := fun _ H' => Q .non H', rt := Q } (start n_is_made vs) H := by
  obtain ⟨nd, a, row, n, rfl, ha, w, hn, q⟩ := h
  refine fg_body (q_forI (ev_v 0) ha (fun i σ' H' => ∃ (k : Nat) (y : Option V), σ' = [some (.ref a), some (.int k), y] ∧ H' = H ∧ 0 < k ∧ stripAll (row.drop i) k = stripAll row n) ⟨n, none, rfl, rfl, hn, rfl⟩ (fun i σ' H' _ hv => ?_) (fun i x σ' H' hx hv => ?_) (fun σ' H' hv => ?_))
  · obtain ⟨k, y, _, rfl, _⟩ := hv
    exact ha
  · obtain ⟨k, y, rfl, rfl, hk, he⟩ := hv
    rw [List.getElem?_map] at hx
    cases e : row[i]? with
    | none => rw [e] at hx; cases hx
    | some p =>
      rw [e] at hx
      cases hx
      have hlt := (List.getElem?_eq_some_iff.mp e).1
      have hp := w.ge (List.mem_of_getElem? e)
      have hdr : row.drop i = p :: row.drop (i + 1) := by
        rw [List.drop_eq_getElem_cons hlt]
        congr 1
        exact (List.getElem?_eq_some_iff.mp e).2
      rw [hdr] at he
      refine s_whileP (fun m σ' H'' => ∃ j : Nat, σ' = [some (.ref a), some (.int j), some (.int p)] ∧ H'' = H' ∧ j = m ∧ 0 < j ∧ strip p j = strip p k) k ⟨k, rfl, rfl, rfl, hk, rfl⟩ (fun m σ' H'' hw => ?_)
      obtain ⟨j, rfl, rfl, rfl, hj, hs⟩ := hw
      refine ⟨_, ep_eqi (ev_mod (ev_v 1) (ev_v 2) (by omega)) ev_c, fun hb => ?_, fun hb => ?_⟩
      · have hm : j % p = 0 := by omega
        have hdl : j / p < j := Nat.div_lt_self hj (by omega)
        refine s_augC (a := (j : Int)) (b := (p : Int)) (ev_v 2) ⟨j / p, hdl, j / p, by simp, rfl, rfl, ?_, ?_⟩ (cd (by omega))
        · exact Nat.div_pos (Nat.le_of_dvd hj (Nat.dvd_of_mod_eq_zero hm)) (by omega)
        · rw [← hs, strip_yes (by omega) hj hm]
      · have hm : j % p ≠ 0 := by omega
        rw [strip_no hm] at hs
        refine ⟨j, some (.int p), rfl, rfl, hj, ?_⟩
        rw [hs]
        exact he
  · obtain ⟨k, y, rfl, rfl, hk, he⟩ := hv
    rw [zl_len, List.drop_length] at he
    refine s_ret (ev_eqi (ev_v 1) ev_c) ⟨_, fg_same ex_refl, ?_⟩
    have : decide ((k : Int) = 1) = decide (stripAll row n = 1) := by
      rw [← he]
      exact decide_eq_decide.mpr ⟨fun z => by have : k = 1 := by omega
                                              exact this, fun z => by have : k = 1 := z
                                                                      omega⟩
    rw [this]
    exact q
open Classical in
def sp_is_made_of (K : PySem.W.Frag) : Sp := fun vs H Q _ => Nod H ∧ ∃ (a : Addr) (row : List Nat) (n : Nat), vs = [.ref a, .int (n : Int)] ∧ H a = some (.lst (zv row)) ∧ Rw row ∧ row ≠ [] ∧ Q (.bl (decide (0 < n ∧ Mk row n))) H
/-- slots: row thing -/
abbrev n_is_made_of : List Str := ["row", "thing"]
def t_is_made_of (K : PySem.W.Frag) : TS := (sFg (tSeq (tDrop (tCall (sp_need_row K) [] E0 (tCons (tVar 0) tNil)))
  (tRet (tAndV (tCall (sp_is_whole K) [] E0 (tCons (tVar 1) tNil)) (tAndV (tOp oGt (tVar 1) (tC (.int 0))) (tCall (sp_is_made K) [] E0 (tCons (tVar 0) (tCons (tVar 1) tNil))))))))
theorem r_is_made_of {K : PySem.W.Frag} {vs : List V} {H : Hp} {Q : VK} {E : XK} (h : sp_is_made_of K vs H Q E) : t_is_made_of K { nx := fun _ H' => Q .non H', rt := Q } (start n_is_made_of vs) H := by
  obtain ⟨nd, a, row, n, rfl, ha, w, hne, q⟩ := h
  refine fg_body (q_drop (ev_call (v := .non) (ea_1 (ev_v 0)) (fun Q q => ⟨nd, a, row, rfl, ha, w, hne, q⟩) _ ?_))
  refine s_ret (ev_eq (ev_and (ev_call (v := .bl true) (ea_1 (ev_v 1)) fun Q q => ⟨nd, _, rfl, q⟩) fun _ => ev_and (b := decide (stripAll row n = 1)) (ev_gt (ev_v 1) ev_c) fun hb => ev_call (ea_2 (ev_v 0) (ev_v 1)) fun Q q => ⟨nd, a, row, n, rfl, sq_at ha, w, ?_, q⟩) ?_) ⟨H, fg_same ex_refl, q⟩
  · have := of_decide_eq_true hb; omega
  · congr 1
    by_cases h0 : 0 < n
    · have e := stripAll_iff w.good h0
      by_cases hm : Mk row n
      · simp [h0, hm, e.mpr hm]
      · have : ¬ stripAll row n = 1 := fun z => hm (e.mp z)
        simp [hm, this]
    · have h00 : n = 0 := by omega
      subst h00
      simp
end Px
set_option Elab.async false
set_option linter.all false
set_option maxRecDepth 100000
set_option maxHeartbeats 4000000
namespace Px
open PySem L2 MA
local macro_rules | `(tactic| bv_omega) => `(tactic| first | assumption | omega | exact cm (by omega) | exact cd (by omega) | exact cp (by omega) | exact trivial)
local macro_rules | `(tactic| array_get_dec) => `(tactic| first
  | assumption
  | exact sq_up
  | exact Own.sqi (by assumption) 0 (by rfl)
  | exact Own.sqi (by assumption) 1 (by rfl)
  | exact Own.sqi (by assumption) 2 (by rfl)
  | exact Own.sqi (by assumption) 3 (by rfl)
  | exact Own.sqi (by assumption) 4 (by rfl)
  | exact Own.sq (by assumption) (by assumption)
  | exact sq_new (by assumption) (by assumption))
local macro_rules | `(tactic| clean_wf) => `(tactic| first
  | with_reducible exact ev_c
  | (with_reducible apply ev_v') <;> rfl
  | (with_reducible apply ev_add) <;> clean_wf
  | (with_reducible apply ev_sub) <;> clean_wf
  | (with_reducible apply ev_mul) <;> clean_wf
  | (with_reducible apply ev_mod) <;> clean_wf
  | (with_reducible apply ev_div) <;> clean_wf
  | (with_reducible apply ev_pow) <;> clean_wf
  | (with_reducible apply ev_neg) <;> clean_wf
  | (with_reducible apply ev_lt) <;> clean_wf
  | (with_reducible apply ev_le) <;> clean_wf
  | (with_reducible apply ev_gt) <;> clean_wf
  | (with_reducible apply ev_ge) <;> clean_wf
  | (with_reducible apply ev_eqi) <;> clean_wf
  | (with_reducible apply ev_nei) <;> clean_wf
  | (with_reducible apply ev_len) <;> clean_wf
  | (with_reducible apply ev_ixL) <;> clean_wf
  | (with_reducible apply ev_min) <;> clean_wf
  | (with_reducible apply ev_max) <;> clean_wf
  | (with_reducible apply ev_abs) <;> clean_wf
  | (with_reducible apply ev_intB) <;> clean_wf
  | (with_reducible apply ea_1) <;> clean_wf
  | (with_reducible apply ea_2) <;> clean_wf
  | (with_reducible apply ea_3) <;> clean_wf
  | with_reducible exact ea_nil
  | (with_reducible apply ea_cons) <;> clean_wf
  | with_reducible exact el_nil
  | (with_reducible apply ep_lt) <;> clean_wf
  | (with_reducible apply ep_le) <;> clean_wf
  | (with_reducible apply ep_gt) <;> clean_wf
  | (with_reducible apply ep_ge) <;> clean_wf
  | (with_reducible apply ep_eqi) <;> clean_wf
  | (with_reducible apply ep_nei) <;> clean_wf
  | (with_reducible apply ep_not) <;> clean_wf
  | ((with_reducible apply ep_and) <;> first | (intro _; clean_wf; done) | clean_wf)
  | ((with_reducible apply ep_or) <;> first | (intro _; clean_wf; done) | clean_wf)
  | (with_reducible apply et_t) <;> clean_wf
  | (with_reducible apply eo_is) <;> clean_wf
  | with_reducible exact eo_no
  | array_get_dec
  | bv_omega
  | rfl
  | skip)
local macro_rules | `(tactic| symm_saturate) => `(tactic| first
  | ((with_reducible apply q_set); (focus (clean_wf; done)))
  | ((with_reducible apply s_set); (focus (clean_wf; done)))
  | ((with_reducible apply q_aug (hx := rfl)); (focus (clean_wf; done)))
  | ((with_reducible apply s_aug (hx := rfl)); (focus (clean_wf; done)))
  | ((with_reducible apply q_augC (hx := rfl)); (focus (clean_wf; done)))
  | ((with_reducible apply s_augC (hx := rfl)); (focus (clean_wf; done))))
local macro_rules | `(tactic| subst_eqs) => `(tactic| repeat' (first
  | with_reducible apply w_c
  | ((with_reducible apply w_v'); (focus rfl))
  | with_reducible apply w_op
  | with_reducible apply w_cb
  | with_reducible apply w_cons
  | with_reducible apply w_nil
  | with_reducible apply r_add
  | with_reducible apply r_sub
  | ((with_reducible apply r_mul); (focus (bv_omega; done)))
  | ((with_reducible apply r_div); (focus (bv_omega; done)))
  | ((with_reducible apply r_mod); (focus (bv_omega; done)))
  | ((with_reducible apply r_pow); (focus (bv_omega; done)))
  | with_reducible apply r_lt
  | with_reducible apply r_le
  | with_reducible apply r_gt
  | with_reducible apply r_ge
  | with_reducible apply r_min
  | with_reducible apply r_max
  | with_reducible apply r_intB
  | ((with_reducible apply r_len); (focus (array_get_dec; done)))
  | with_reducible apply w_callW
  | with_reducible apply q_setW
  | with_reducible apply s_setW
  | with_reducible apply s_retW))

/-! ### all to a bound, in any order -/
def sp_made_to (K : PySem.W.Frag) : Sp := fun vs H Q _ => Nod H ∧ ∃ (a : Addr) (row : List Nat) (b : Nat), vs = [.ref a, .int (b : Int)] ∧ H a = some (.lst (zv row)) ∧ Rw row ∧ Fits row b ∧
  ∀ (p : Addr) (l : List Nat), H p = none → IsAll row b l → Q (.ref p) (upd H p (.lst (zv l)))
/-- slots: row bound found prime at -/
abbrev n_made_to : List Str := ["row", "bound", "found", "prime", "at"]
def t_made_to (K : PySem.W.Frag) : TS := (sFg (tSeq (tAsg (tFg (tOp rRep (tLst (tCons (tC (.int 1)) tNil)) (tCB cInt (tCons (tOp oGt (tVar 1) (tC (.int 0))) tNil)))) (gName 2))
  (tSeq (tFor (iList K (tVar 0)) (gName 3) (tSeq (tAsg (tC (.int 0)) (gName 4))
  (tWhile (tTest (tOp oLt (tVar 4) (tCB (cLen K) (tCons (tVar 2) tNil)))) (tSeq (tIfS (tTest (tOp oLe (tOp oMul (tOp (rIxL K) (tVar 2) (tVar 4)) (tVar 3)) (tVar 1))) (tDrop (tBM K "list" rAppend (tVar 2) (tCons (tOp oMul (tOp (rIxL K) (tVar 2) (tVar 4)) (tVar 3)) tNil))) tNext)
  (tAug 4 (tC (.int 1)) (ipI fun i j => i + j))))))
  (tRet (tVar 2)))))
theorem zv_one (b : Nat) (F : List Nat) : (zv F) ++ [V.int (b : Int)] = zv (F ++ [b]) := by simp
theorem s_appN {K : PySem.W.Frag} {σ : L2.St} {H : Hp} {ta te : TE} {l : Addr} {F : List Nat} {x : Nat} {D : Ends} (hz : F.length < 16000000) (ha : Ev ta σ (upd H l (.lst (zv F))) (.ref l)) (h : Ev te σ (upd H l (.lst (zv F))) (.int (x : Int))) (k : D.nx σ (upd H l (.lst (zv (F ++ [x]))))) : tDrop (tBM K "list" rAppend ta (tCons te tNil)) D σ (upd H l (.lst (zv F))) :=
  s_app upd_same (by rw [zv_len]; exact szl hz) ha h (by rw [upd_upd, zv_one]; exact k)
theorem r_made_to {K : PySem.W.Frag} {vs : List V} {H : Hp} {Q : VK} {E : XK} (h : sp_made_to K vs H Q E) : t_made_to K { nx := fun _ H' => Q .non H', rt := Q } (start n_made_to vs) H := by
  obtain ⟨nd, a, row, b, rfl, ha, w, f, q⟩ := h
  have g := w.good
  have hfit := w.fit f
  have hb := f.lt
  refine fg_body (q_setL (xs := zv (if 0 < b then [1] else [])) (el_fg fun Q q => w_op (w_evL (el_lst (ea_1 ev_c) (by simp)) fun p1 hp1 => ?_)) fun p hp => ?_)
  · refine w_cb (w_one (w_op (w_v 1 (w_c (r_gt (r_intB (w_rep1 (k := 1) upd_same fun p2 hp2 => ?_)))))))
    obtain ⟨h1, h2⟩ := none_upd hp2
    refine q p2 _ h1 (ex_upd h1 (ex_new hp1)) ?_
    rw [upd_same]
    by_cases h0 : 0 < b
    · simp [h0]
    · have : b = 0 := by omega
      subst this; simp
  have hap : a ≠ p := ne_of_none ha hp
  have sa : ∀ o, SqL K (upd H p o) a (zv row) := fun o => sq_at (by rw [upd_ne hap]; exact ha)
  refine q_forI (ns := zl row) (ev_v 0) (sa _) (fun i σ' H' => ∃ (F : List Nat) (y3 y4 : Option V), σ' = [some (.ref a), some (.int b), some (.ref p), y3, y4] ∧ H' = upd H p (.lst (zv F)) ∧ IsAll (row.take i) b F) ⟨_, none, none, rfl, rfl, ?_⟩ (fun i σ' H' _ hv => ?_) (fun i x σ' H' hx hv => ?_) (fun σ' H' hv => ?_)
  · rw [List.take_zero]
    by_cases h0 : 0 < b
    · rw [if_pos h0]; exact all_nil h0
    · rw [if_neg h0, show b = 0 by omega]; exact all_zero fun _ h => (List.not_mem_nil h).elim
  · obtain ⟨F, y3, y4, _, rfl, _⟩ := hv
    exact sa _
  · obtain ⟨L, y3, y4, rfl, rfl, hL⟩ := hv
    rw [List.getElem?_map] at hx
    cases e : row[i]? with
    | none => rw [e] at hx; cases hx
    | some pr =>
      rw [e] at hx
      cases hx
      have gd := take_good g e
      have hp2 := w.ge (List.mem_of_getElem? e)
      have hcap : cnt (pr :: row.take i) b ≤ 9000000 := Nat.le_trans (take_cnt e) hfit
      refine q_set ev_c (s_whileP (fun m σ' H' => ∃ (F : List Nat) (k : Nat), σ' = [some (.ref a), some (.int b), some (.ref p), some (.int (pr : Int)), some (.int (k : Int))] ∧ H' = upd H p (.lst (zv F)) ∧ m = 9000000 - k ∧ k ≤ F.length ∧ Gr (row.take i) L pr b F k) 9000000 ⟨L, 0, rfl, rfl, rfl, by omega, .start hL⟩ (fun m σ' H' hw => ?_))
      obtain ⟨F, k, rfl, rfl, rfl, hk, G⟩ := hw
      have hF := G.len
      refine ⟨_, ep_lt (ev_v 4) (ev_len (ev_v 2) sq_up), fun hc => ?_, fun hc => ?_⟩
      · rw [zv_len] at hc
        have hk2 : k < F.length := by omega
        have hgk := List.getElem?_eq_getElem hk2
        have hx := G.made _ (List.getElem_mem hk2)
        have at_ := zv_at hk2
        generalize F[k] = x at hgk hx at_
        have hxp : (x : Int) * (pr : Int) = ((x * pr : Nat) : Int) := by simp
        refine q_whenI (fun σ' H' => ∃ F' : List Nat, σ' = [some (.ref a), some (.int b), some (.ref p), some (.int (pr : Int)), some (.int (k : Int))] ∧ H' = upd H p (.lst (zv F')) ∧ k < F'.length ∧ Gr (row.take i) L pr b F' (k + 1)) (ep_le (ev_mul (ev_ixL (ev_v 2) (ev_v 4) sq_up at_) (ev_v 3) (cm (by omega))) (ev_v 1)) (fun hle N hN => ?_) (fun hle => ⟨F, rfl, rfl, hk2, G.stay hgk (by omega)⟩) fun σ' H' hI => ?_
        · refine s_appN (x := x * pr) (by omega) (ev_v 2) (ev_eq (ev_mul (ev_ixL (ev_v 2) (ev_v 4) sq_up at_) (ev_v 3) (cm (by omega))) (by rw [hxp])) (hN _ _ ⟨_, rfl, rfl, by simp; omega, G.grow gd hL hgk (by omega)⟩)
        · obtain ⟨F', rfl, rfl, hk', G'⟩ := hI
          have := G'.len
          exact s_aug (a := (k : Int)) ev_c ⟨9000000 - (k + 1), by omega, F', k + 1, rfl, rfl, rfl, by omega, G'⟩
      · rw [zv_len] at hc
        have hkl : k = F.length := by omega
        subst hkl
        exact ⟨F, _, _, rfl, rfl, take_all e (G.fin gd hL)⟩
  · obtain ⟨F, y3, y4, rfl, rfl, hF⟩ := hv
    rw [zl_len, List.take_length] at hF
    exact s_ret (ev_v 2) ⟨_, fg_newL hp (ex_new hp) upd_same, q p F hp hF⟩
/-! ### in order -/
def sp_all_to (K : PySem.W.Frag) : Sp := fun vs H Q _ => Nod H ∧ ∃ (a : Addr) (row : List Nat) (b : Nat), vs = [.ref a, .int (b : Int)] ∧ H a = some (.lst (zv row)) ∧ Rw row ∧ row ≠ [] ∧ Fits row b ∧
  ∀ (p : Addr), H p = none → Q (.ref p) (upd H p (.lst (zv (allL row b))))
/-- slots: row bound -/
abbrev n_all_to : List Str := ["row", "bound"]
def t_all_to (K : PySem.W.Frag) : TS := (sFg (tSeq (tDrop (tCall (sp_need_row K) [] E0 (tCons (tVar 0) tNil)))
  (tRet (tFg (tCB (rSortedI K) (tCons (tCall (sp_made_to K) [] E0 (tCons (tVar 0) (tCons (tVar 1) tNil))) tNil))))))
theorem need {K : PySem.W.Frag} {σ : L2.St} {H : Hp} {D : Ends} {s2 : TS} {a : Addr} {row : List Nat} [nd : Nod H] (h0 : σ[0]? = some (some (.ref a))) (ha : H a = some (.lst (zv row))) (w : Rw row) (hne : row ≠ []) (k : s2 D σ H) : tSeq (tDrop (tCall (sp_need_row K) [] E0 (tCons (tVar 0) tNil))) s2 D σ H :=
  q_drop (ev_call (v := .non) (ea_1 (ev_v' h0)) (fun Q q => ⟨nd, a, row, rfl, ha, w, hne, q⟩) _ k)
theorem r_all_to {K : PySem.W.Frag} {vs : List V} {H : Hp} {Q : VK} {E : XK} (h : sp_all_to K vs H Q E) : t_all_to K { nx := fun _ H' => Q .non H', rt := Q } (start n_all_to vs) H := by
  obtain ⟨nd, a, row, b, rfl, ha, w, hne, f, q⟩ := h
  refine fg_body (need rfl ha w hne (s_retL (el_fg fun Q q => w_cb (w_one (w_call (ea_2 (ev_v 0) (ev_v 1)) ⟨nd, a, row, b, rfl, ha, w, f, fun p l hp hl => r_sortN sq_up fun l' p2 h1 h2 hp2 => ?_⟩))) fun p hp => ⟨_, fg_newL hp (ex_new hp) upd_same, q p hp⟩))
  obtain ⟨h3, h4⟩ := none_upd hp2
  rw [hl.sorted h1 h2]
  exact q p2 _ h3 (ex_upd h3 (ex_new hp)) upd_same
/-! ### grown -/
def sp_grown (K : PySem.W.Frag) : Sp := fun vs H Q _ => Nod H ∧ ∃ (x p b : Nat), vs = [.int (x : Int), .int (p : Int), .int (b : Int)] ∧ 0 < x ∧ x < 2 ^ 100 ∧ 2 ≤ p ∧ p ≤ 97 ∧ b < 2 ^ 100 ∧ ∀ y, Gn p b x y → Q (.int (y : Int)) H
/-- slots: number prime bound -/
abbrev n_grown : List Str := ["number", "prime", "bound"]
def t_grown (K : PySem.W.Frag) : TS := (sFg (tSeq (tWhile (tTest (tOp oLe (tOp oMul (tVar 0) (tVar 1)) (tVar 2))) (tAug 0 (tVar 1) (ipC CMulW fun i j => i * j)))
  (tRet (tVar 0))))
theorem r_grown {K : PySem.W.Frag} {vs : List V} {H : Hp} {Q : VK} {E : XK} (h : sp_grown K vs H Q E) : t_grown K { nx := fun _ H' => Q .non H', rt := Q } (start n_grown vs) H := by
  obtain ⟨nd, x, p, b, rfl, hx, hx2, hp, hp2, hb, q⟩ := h
  refine fg_body (q_whileP (fun m σ' H' => ∃ (y : Nat), σ' = [some (.int (y : Int)), some (.int (p : Int)), some (.int (b : Int))] ∧ H' = H ∧ m = 2 ^ 100 - y ∧ 0 < y ∧ y < 2 ^ 100 ∧ (∃ k, y = x * p ^ k) ∧ (x ≤ b → y ≤ b)) (2 ^ 100 - x) ⟨x, rfl, rfl, rfl, hx, hx2, ⟨0, by simp⟩, fun h => h⟩ (fun m σ' H' hw => ?_))
  obtain ⟨y, rfl, rfl, rfl, hy, hy2, ⟨k, hk⟩, hle⟩ := hw
  have hyp : (y : Int) * (p : Int) = ((y * p : Nat) : Int) := by simp
  have h2 : y * 2 ≤ y * p := Nat.mul_le_mul_left y hp
  refine ⟨_, ep_le (ev_mul (ev_v 0) (ev_v 1) (cm (by omega))) (ev_v 2), fun hc => ?_, fun hc => ?_⟩
  · rw [hyp] at hc
    exact s_augC (a := (y : Int)) (b := (p : Int)) (ev_v 1) ⟨2 ^ 100 - y * p, by omega, y * p, by rw [hyp]; rfl, rfl, rfl, by omega, by omega, ⟨k + 1, by rw [hk, Nat.pow_succ, Nat.mul_assoc]⟩, fun _ => by omega⟩ (cm (by omega))
  · rw [hyp] at hc
    exact s_ret (ev_v 0) ⟨_, fg_same ex_refl, q y ⟨⟨k, hk⟩, by omega, hle⟩⟩
/-! ### counted -/
def sp_how_often (K : PySem.W.Frag) : Sp := fun vs H Q _ => Nod H ∧ ∃ (p b : Nat), vs = [.int (p : Int), .int (b : Int)] ∧ 2 ≤ p ∧ p ≤ 97 ∧ b < 2 ^ 100 ∧ Q (.int ((pwl p b 1).length : Int)) H
/-- slots: prime bound found power -/
abbrev n_how_often : List Str := ["prime", "bound", "found", "power"]
def t_how_often (K : PySem.W.Frag) : TS := (sFg (tSeq (tAsg (tC (.int 0)) (gName 2))
  (tSeq (tAsg (tC (.int 1)) (gName 3))
  (tSeq (tWhile (tTest (tOp oLe (tVar 3) (tVar 1))) (tSeq (tAug 2 (tC (.int 1)) (ipI fun i j => i + j))
  (tAug 3 (tVar 0) (ipC CMulW fun i j => i * j))))
  (tRet (tVar 2))))))
theorem r_how_often {K : PySem.W.Frag} {vs : List V} {H : Hp} {Q : VK} {E : XK} (h : sp_how_often K vs H Q E) : t_how_often K { nx := fun _ H' => Q .non H', rt := Q } (start n_how_often vs) H := by
  obtain ⟨nd, p, b, rfl, hp, hp2, hb, q⟩ := h
  refine fg_body (q_set ev_c (q_set ev_c (q_whileP (fun m σ' H' => ∃ (k y : Nat), σ' = [some (.int (p : Int)), some (.int (b : Int)), some (.int (k : Int)), some (.int (y : Int))] ∧ H' = H ∧ m = 2 ^ 110 - y ∧ 0 < y ∧ y < 2 ^ 110 ∧ k + (pwl p b y).length = (pwl p b 1).length) (2 ^ 110 - 1) ⟨0, 1, rfl, rfl, rfl, by omega, by omega, by omega⟩ (fun m σ' H' hw => ?_))))
  obtain ⟨k, y, rfl, rfl, rfl, hy, hy2, he⟩ := hw
  have hyp : (y : Int) * (p : Int) = ((y * p : Nat) : Int) := by simp
  have h2 : y * 2 ≤ y * p := Nat.mul_le_mul_left y hp
  refine ⟨_, ep_le (ev_v 3) (ev_v 1), fun hc => ?_, fun hc => ?_⟩
  · have hyb : y ≤ b := by omega
    have h3 : y * p ≤ 2 ^ 100 * 97 := Nat.mul_le_mul (by omega) hp2
    rw [pwl_yes hp hy hyb, List.length_cons] at he
    refine q_aug (a := (k : Int)) ev_c (s_augC (a := (y : Int)) (b := (p : Int)) (ev_v 0) ⟨2 ^ 110 - y * p, by omega, k + 1, y * p, ?_, rfl, rfl, by omega, by omega, by omega⟩ (cm (by omega)))
    rw [hyp]; rfl
  · rw [pwl_no (by omega), List.length_nil] at he
    have e : k = (pwl p b 1).length := by omega
    rw [← e] at q
    exact s_ret (ev_v 2) ⟨_, fg_same ex_refl, q⟩
def sp_many_to (K : PySem.W.Frag) : Sp := fun vs H Q _ => Nod H ∧ ∃ (a : Addr) (row : List Nat) (b : Nat), vs = [.ref a, .int (b : Int)] ∧ H a = some (.lst (zv row)) ∧ Rw row ∧ row ≠ [] ∧ Fits row b ∧ Q (.int (cnt row b : Int)) H
/-- slots: row bound rest -/
abbrev n_many_to : List Str := ["row", "bound", "rest"]
def t_many_to (K : PySem.W.Frag) : TS := (sFg (tSeq (tDrop (tCall (sp_need_row K) [] E0 (tCons (tVar 0) tNil)))
  (tRet (tFg (tCB (rSum K) (tCons (tFg (tLc (iList K (tFg (tCall (sp_made_to K) [] E0 (tCons (tSl (rSlL K) (tVar 0) (tPart (tC (.int 1))) tNoPart) (tCons (tVar 1) tNil))))) (gName 2) tYes (tCall (sp_how_often K) [] E0 (tCons (tOp (rIxL K) (tVar 0) (tC (.int 0))) (tCons (tOp oDiv (tVar 1) (tVar 2)) tNil))) [2])) tNil))))))
/-- made_to(row[1:], b) -/
theorem el_rest {K : PySem.W.Frag} {σ : L2.St} {H : Hp} [nd : Nod H] {te : TE} {a : Addr} {p b : Nat} {r : List Nat} (h0 : σ[0]? = some (some (.ref a))) (ha : H a = some (.lst (zv (p :: r)))) (w : Rw (p :: r)) (f : Fits r b) (hb : ∀ H1, Ev te σ H1 (.int (b : Int))) {Q : VK} (q : ∀ l q, IsAll r b l → H q = none → Q (.ref q) (upd H q (.lst (zv l)))) :
    tFg (tCall (sp_made_to K) [] E0 (tCons (tSl (rSlL K) (tVar 0) (tPart (tC (.int 1))) tNoPart) (tCons te tNil))) σ H Q := by
  refine w_callW (w_cons (w_evL (el_sl (ev_v' h0) (eo_is ev_c) eo_no (sq_at ha)) fun p1 hp1 => w_one (w_ev (hb _) ?_)))
  rw [show (1 : Int) = ((1 : Nat) : Int) from rfl, cut_fromN]
  refine ⟨inferInstance, p1, r, b, rfl, upd_same, w.tail, f, fun p2 l hp2 hl => ?_⟩
  obtain ⟨h1, h2⟩ := none_upd hp2
  exact ⟨_, fg_newL h1 (ex_upd h1 (ex_new hp1)) upd_same, q l p2 hl h1⟩
theorem sum_zl {f : Nat → Nat} (l : List Nat) : (((zl l).map fun i : Int => (f i.toNat : Int)).sum) = ((l.map f).sum : Nat) := by
  induction l with
  | nil => rfl
  | cons a l ih =>
    simp only [zl, List.map_cons, List.sum_cons] at ih ⊢
    rw [ih]
    simp
theorem r_many_to {K : PySem.W.Frag} {vs : List V} {H : Hp} {Q : VK} {E : XK} (h : sp_many_to K vs H Q E) : t_many_to K { nx := fun _ H' => Q .non H', rt := Q } (start n_many_to vs) H := by
  obtain ⟨nd, a, row, b, rfl, ha, w, hne, f, q⟩ := h
  obtain ⟨p, r, rfl⟩ := List.exists_cons_of_ne_nil hne
  have f' : Fits r b := f.sub (by simp)
  have hp := w.ge List.mem_cons_self
  have hb := f.lt
  refine fg_body (need rfl ha w hne (s_ret (v := .int (cnt (p :: r) b : Int)) (ev_fg fun Q q => w_cb (w_one ?_)) ⟨H, fg_same ex_refl, q⟩))
  refine w_fg (w_lcLW (el_rest rfl ha w f' (fun H1 => ev_v 1) fun l p1 hl hp1 => ⟨p1, rfl, ⟨_, sq_up⟩, lcat_map (fun i => ((pwl p (b / i.toNat) 1).length : Int)) sq_up ?_ (fun _ => rfl) (fun i hi D acc hD => ?_) fun D hD => ?_⟩))
  · rw [zl_len, hl.len]
    exact Nat.le_trans (w.tail.fit f') (by omega)
  · obtain ⟨x, hx, rfl⟩ := List.mem_map.mp hi
    have hx0 := mk_pos w.tail.good.ge ((hl.2 x).mp hx).1
    obtain ⟨hD1, hD2⟩ := none_upd hD
    have hxb := ((hl.2 x).mp hx).2
    have hdb : b / x ≤ b := Nat.div_le_self _ _
    have hap : a ≠ p1 := ne_of_none ha hp1
    have haD : a ≠ D := ne_of_none ha hD1
    refine ev_call (ea_2 (ev_ixL (i := 0) (v := .int (p : Int)) (ev_v 0) ev_c (sq_at (by rw [upd_ne haD, upd_ne hap]; exact ha)) zv_0) (ev_eq (ev_div (ev_v 1) (ev_v 2) (cd (by omega))) (show V.int ((b : Int) / (x : Int)) = .int ((b / x : Nat) : Int) by simp))) fun Q q => ⟨inferInstance, p, b / x, rfl, hp.1, hp.2, by omega, ?_⟩
    simpa using q
  · obtain ⟨hD1, hD2⟩ := none_upd hD
    refine ⟨_, fg_newL hD1 (ex_upd hD1 (ex_new hp1)) upd_same, ?_⟩
    refine ⟨D, _, rfl, sq_up, ?_⟩
    have e : (((zl l).map fun i : Int => ((pwl p (b / i.toNat) 1).length : Int)).sum) = (cnt (p :: r) b : Int) := by
      rw [sum_zl (f := fun x => (pwl p (b / x) 1).length), cnt_sum w.good hl]
      congr 2
      refine List.map_congr_left fun x hx => (pwl_div1 (mk_pos w.tail.good.ge ((hl.2 x).mp hx).1) hp.1).symm
    rw [e]
    exact q _ (ex_new hD1)
def sp_many_between (K : PySem.W.Frag) : Sp := fun vs H Q _ => Nod H ∧ ∃ (a : Addr) (row : List Nat) (lo hi : Nat), vs = [.ref a, .int (lo : Int), .int (hi : Int)] ∧ H a = some (.lst (zv row)) ∧ Rw row ∧ row ≠ [] ∧ Fits row hi ∧
  Q (.int (if hi < lo then 0 else (cnt row hi : Int) - (cnt row (lo - 1) : Int))) H
/-- slots: row low high -/
abbrev n_many_between : List Str := ["row", "low", "high"]
def t_many_between (K : PySem.W.Frag) : TS := (sFg (tSeq (tDrop (tCall (sp_need_row K) [] E0 (tCons (tVar 0) tNil)))
  (tSeq (tIfS (tTest (tOp oGt (tVar 1) (tVar 2))) (tRet (tC (.int 0))) tNext)
  (tRet (tOp oSub (tCall (sp_many_to K) [] E0 (tCons (tVar 0) (tCons (tVar 2) tNil))) (tCall (sp_many_to K) [] E0 (tCons (tVar 0) (tCons (tCB cMax (tCons (tC (.int 0)) (tCons (tOp oSub (tVar 1) (tC (.int 1))) tNil))) tNil))))))))
theorem r_many_between {K : PySem.W.Frag} {vs : List V} {H : Hp} {Q : VK} {E : XK} (h : sp_many_between K vs H Q E) : t_many_between K { nx := fun _ H' => Q .non H', rt := Q } (start n_many_between vs) H := by
  obtain ⟨nd, a, row, lo, hi, rfl, ha, w, hne, f, q⟩ := h
  refine fg_body (need rfl ha w hne (q_whenP (by clean_wf) (fun hc => ?_) fun hc => ?_))
  · rw [if_pos (by omega)] at q
    exact s_ret ev_c ⟨H, fg_same ex_refl, q⟩
  · rw [if_neg (by omega)] at q
    refine s_ret (ev_sub (ev_call (ea_2 (ev_v 0) (ev_v 2)) fun Q q => ⟨nd, a, row, hi, rfl, ha, w, hne, f, q⟩) (ev_call (ea_2 (ev_v 0) (ev_eq (y := .int ((lo - 1 : Nat) : Int)) (ev_max ev_c (ev_sub (ev_v 1) ev_c)) (by congr 1; split <;> omega))) fun Q q => ⟨nd, a, row, lo - 1, rfl, ha, w, hne, f.mono (by omega), q⟩)) ⟨H, fg_same ex_refl, q⟩
/-! ### next and last -/
def sp_next_one (K : PySem.W.Frag) : Sp := fun vs H Q _ => Nod H ∧ ∃ (a : Addr) (row : List Nat) (n : Nat), vs = [.ref a, .int (n : Int)] ∧ H a = some (.lst (zv row)) ∧ Rw row ∧ row ≠ [] ∧ Fits (row.drop 1) (n * 97) ∧ n < 2 ^ 63 ∧
  ∀ m, IsNext row n m → Q (.int (m : Int)) H
/-- slots: row number best rest -/
abbrev n_next_one : List Str := ["row", "number", "best", "rest"]
def t_next_one (K : PySem.W.Frag) : TS := (sFg (tSeq (tDrop (tCall (sp_need_row K) [] E0 (tCons (tVar 0) tNil)))
  (tSeq (tIfS (tTest (tOp rEq (tVar 1) (tC (.int 0)))) (tRet (tC (.int 1))) tNext)
  (tSeq (tAsg (tOp oMul (tCall (sp_grown K) [] E0 (tCons (tC (.int 1)) (tCons (tOp (rIxL K) (tVar 0) (tC (.int 0))) (tCons (tVar 1) tNil)))) (tOp (rIxL K) (tVar 0) (tC (.int 0)))) (gName 2))
  (tSeq (tFor (iList K (tFg (tCall (sp_made_to K) [] E0 (tCons (tSl (rSlL K) (tVar 0) (tPart (tC (.int 1))) tNoPart) (tCons (tVar 2) tNil))))) (gName 3) (tSeq (tIfS (tTest (tOp oLe (tVar 3) (tVar 1))) (tAsg (tOp oMul (tCall (sp_grown K) [] E0 (tCons (tVar 3) (tCons (tOp (rIxL K) (tVar 0) (tC (.int 0))) (tCons (tVar 1) tNil)))) (tOp (rIxL K) (tVar 0) (tC (.int 0)))) (gName 3)) tNext)
  (tAsg (tCB cMin (tCons (tVar 2) (tCons (tVar 3) tNil))) (gName 2))))
  (tRet (tVar 2)))))))
theorem next_zero {row : List Nat} (g : ∀ p ∈ row, 2 ≤ p) : IsNext row 0 1 := ⟨.one, by omega, fun k hk _ => mk_pos g hk⟩
theorem r_next_one {K : PySem.W.Frag} {vs : List V} {H : Hp} {Q : VK} {E : XK} (h : sp_next_one K vs H Q E) : t_next_one K { nx := fun _ H' => Q .non H', rt := Q } (start n_next_one vs) H := by
  obtain ⟨nd, a, row, n, rfl, ha, w, hne, f, hn, q⟩ := h
  obtain ⟨p, r, rfl⟩ := List.exists_cons_of_ne_nil hne
  have hp := w.ge List.mem_cons_self
  have g := w.good
  refine fg_body (need rfl ha w hne (q_whenP (by clean_wf) (fun hc => ?_) fun hc => ?_))
  · have : n = 0 := by omega
    subst this
    exact s_ret ev_c ⟨H, fg_same ex_refl, q 1 (next_zero g.ge)⟩
  have hn0 : 0 < n := by omega
  have ev0 : ∀ {σ : L2.St} {H' : Hp}, σ[0]? = some (some (.ref a)) → Ex H H' → Ev (tOp (rIxL K) (tVar 0) (tC (.int 0))) σ H' (.int (p : Int)) := fun h e => ev_ixL (ev_v' h) ev_c (sq_at (e _ _ ha)) zv_0
  refine q_setW (w_op (w_callW (w_cons (w_c (w_cons (w_ev (ev0 rfl ex_refl) (w_one (w_v 1 ⟨nd, 1, p, n, rfl, by omega, by omega, hp.1, hp.2, by omega, fun y gy => ?_⟩))))))))
  have hy := gy.le hn0
  have hyp : (y : Int) * (p : Int) = ((y * p : Nat) : Int) := by simp
  have hyn : y * p ≤ n * 97 := Nat.mul_le_mul hy hp.2
  refine w_ev (ev0 rfl ex_refl) (r_mul (cm (by omega)) ?_)
  rw [hyp]
  have hmk0 : Mk (p :: r) (y * p) := by
    obtain ⟨k, e⟩ := gy.pw
    rw [e, Nat.one_mul, ← Nat.pow_succ]
    exact mk_pow List.mem_cons_self _
  have hgt0 := gy.gt
  generalize y * p = b0 at hyn hmk0 hgt0
  refine q_seq (w_forL (el_rest rfl ha w (f.mono hyn) (fun H1 => ev_v 2) fun l p1 hl hp1 => ⟨p1, rfl, ⟨_, sq_up⟩, ?_⟩))
  have hap : a ≠ p1 := ne_of_none ha hp1
  refine lp_list (xs := zv l) (fun i σ' H' => ∃ (best : Nat) (y3 : Option V), σ' = [some (.ref a), some (.int (n : Int)), some (.int (best : Int)), y3] ∧ H' = upd H p1 (.lst (zv l)) ∧ Mk (p :: r) best ∧ n < best ∧ best ≤ b0 ∧ ∀ x ∈ l.take i, ∀ k, n < x * p ^ k → best ≤ x * p ^ k) ⟨b0, none, rfl, rfl, hmk0, hgt0, by omega, by simp⟩ (fun i σ' H' _ hv => ?_) (fun i x σ' H' hx hv => ?_) (fun σ' H' hv => ?_)
  · obtain ⟨_, _, _, rfl, _⟩ := hv
    exact sq_up
  · obtain ⟨best, y3, rfl, rfl, hm, hg, hle, hall⟩ := hv
    simp only [List.getElem?_map] at hx
    cases e : l[i]? with
    | none => rw [e] at hx; cases hx
    | some x' =>
      rw [e] at hx
      cases hx
      have hxm := (hl.2 x').mp (List.mem_of_getElem? e)
      have hx0 := mk_pos w.tail.good.ge hxm.1
      have etake : l.take (i + 1) = l.take i ++ [x'] := by rw [List.take_add_one, e]; rfl
      have fin : ∀ z : Nat, Mk (p :: r) z → n < z → (∀ k, n < x' * p ^ k → z ≤ x' * p ^ k) → ∀ N : L2.St → Hp → Prop, (∀ σ' H', (∃ (best : Nat) (y3 : Option V), σ' = [some (.ref a), some (.int (n : Int)), some (.int (best : Int)), y3] ∧ H' = upd H p1 (.lst (zv l)) ∧ Mk (p :: r) best ∧ n < best ∧ best ≤ b0 ∧ ∀ x ∈ l.take (i + 1), ∀ k, n < x * p ^ k → best ≤ x * p ^ k) → N σ' H') →
          N [some (.ref a), some (.int (n : Int)), some (.int (if (z : Int) < (best : Int) then (z : Int) else (best : Int))), some (.int (z : Int))] (upd H p1 (.lst (zv l))) := fun z h1 h2 h3 N hN => by
        by_cases hzb : z < best
        · rw [if_pos (by omega)]
          refine hN _ _ ⟨z, _, rfl, rfl, h1, h2, by omega, fun x hx k hk => ?_⟩
          rw [etake, List.mem_append] at hx
          rcases hx with hx | hx
          · have := hall x hx k hk; omega
          · rw [List.mem_singleton.mp hx] at hk ⊢; exact h3 k hk
        · rw [if_neg (by omega)]
          refine hN _ _ ⟨best, _, rfl, rfl, hm, hg, hle, fun x hx k hk => ?_⟩
          rw [etake, List.mem_append] at hx
          rcases hx with hx | hx
          · exact hall x hx k hk
          · rw [List.mem_singleton.mp hx] at hk ⊢; have := h3 k hk; omega
      refine q_whenI (fun σ' H' => ∃ z : Nat, σ' = [some (.ref a), some (.int (n : Int)), some (.int (best : Int)), some (.int (z : Int))] ∧ H' = upd H p1 (.lst (zv l)) ∧ Mk (p :: r) z ∧ n < z ∧ ∀ k, n < x' * p ^ k → z ≤ x' * p ^ k) (ep_le (i := (x' : Int)) (j := (n : Int)) (ev_v 3) (ev_v 1)) (fun hxn N hN => ?_) (fun hxn => ⟨x', rfl, rfl, mk_mono (fun _ h => List.mem_cons_of_mem _ h) hxm.1, by omega, fun k _ => pow_le_self hp.1⟩) fun σ' H' hI => ?_
      · refine s_setW (w_op (w_callW (w_cons (w_v 3 (w_cons (w_ev (ev0 rfl (ex_new hp1)) (w_one (w_v 1 ⟨inferInstance, x', p, n, rfl, hx0, by omega, hp.1, hp.2, by omega, fun z gz => ?_⟩))))))))
        have hz := gz.le (by omega)
        have hzp : (z : Int) * (p : Int) = ((z * p : Nat) : Int) := by simp
        refine w_ev (ev0 rfl (ex_new hp1)) (r_mul (cm (by omega)) ?_)
        rw [hzp]
        refine hN _ _ ⟨z * p, rfl, rfl, ?_, gz.gt, fun k hk => gz.least hp.1 (by omega) hx0 hk⟩
        obtain ⟨k, e⟩ := gz.pw
        rw [e, Nat.mul_assoc, ← Nat.pow_succ]
        exact mk_cons.mpr ⟨k + 1, x', rfl, hxm.1⟩
      · obtain ⟨z, rfl, rfl, h1, h2, h3⟩ := hI
        exact s_set (ev_min (ev_v 2) (ev_v 3)) (fin z h1 h2 h3 _ fun _ _ h => h)
  · obtain ⟨best, y3, rfl, rfl, hm, hg, hle, hall⟩ := hv
    rw [zv_len, List.take_length] at hall
    exact s_ret (ev_v 2) ⟨_, fg_same (ex_new hp1), q best (next_of g hl hmk0 hgt0 hm hg hle hall)⟩
end Px
set_option Elab.async false
set_option linter.all false
set_option maxRecDepth 100000
set_option maxHeartbeats 4000000
namespace Px
open PySem L2 MA
local macro_rules | `(tactic| bv_omega) => `(tactic| first | assumption | omega | exact cm (by omega) | exact cd (by omega) | exact cp (by omega) | exact trivial)
local macro_rules | `(tactic| array_get_dec) => `(tactic| first
  | assumption
  | exact sq_up
  | exact Own.sqi (by assumption) 0 (by rfl)
  | exact Own.sqi (by assumption) 1 (by rfl)
  | exact Own.sqi (by assumption) 2 (by rfl)
  | exact Own.sqi (by assumption) 3 (by rfl)
  | exact Own.sqi (by assumption) 4 (by rfl)
  | exact Own.sq (by assumption) (by assumption)
  | exact sq_new (by assumption) (by assumption))
local macro_rules | `(tactic| clean_wf) => `(tactic| first
  | with_reducible exact ev_c
  | (with_reducible apply ev_v') <;> rfl
  | (with_reducible apply ev_add) <;> clean_wf
  | (with_reducible apply ev_sub) <;> clean_wf
  | (with_reducible apply ev_mul) <;> clean_wf
  | (with_reducible apply ev_mod) <;> clean_wf
  | (with_reducible apply ev_div) <;> clean_wf
  | (with_reducible apply ev_pow) <;> clean_wf
  | (with_reducible apply ev_neg) <;> clean_wf
  | (with_reducible apply ev_lt) <;> clean_wf
  | (with_reducible apply ev_le) <;> clean_wf
  | (with_reducible apply ev_gt) <;> clean_wf
  | (with_reducible apply ev_ge) <;> clean_wf
  | (with_reducible apply ev_eqi) <;> clean_wf
  | (with_reducible apply ev_nei) <;> clean_wf
  | (with_reducible apply ev_len) <;> clean_wf
  | (with_reducible apply ev_ixL) <;> clean_wf
  | (with_reducible apply ev_min) <;> clean_wf
  | (with_reducible apply ev_max) <;> clean_wf
  | (with_reducible apply ev_abs) <;> clean_wf
  | (with_reducible apply ev_intB) <;> clean_wf
  | (with_reducible apply ea_1) <;> clean_wf
  | (with_reducible apply ea_2) <;> clean_wf
  | (with_reducible apply ea_3) <;> clean_wf
  | with_reducible exact ea_nil
  | (with_reducible apply ea_cons) <;> clean_wf
  | with_reducible exact el_nil
  | (with_reducible apply ep_lt) <;> clean_wf
  | (with_reducible apply ep_le) <;> clean_wf
  | (with_reducible apply ep_gt) <;> clean_wf
  | (with_reducible apply ep_ge) <;> clean_wf
  | (with_reducible apply ep_eqi) <;> clean_wf
  | (with_reducible apply ep_nei) <;> clean_wf
  | (with_reducible apply ep_not) <;> clean_wf
  | ((with_reducible apply ep_and) <;> first | (intro _; clean_wf; done) | clean_wf)
  | ((with_reducible apply ep_or) <;> first | (intro _; clean_wf; done) | clean_wf)
  | (with_reducible apply et_t) <;> clean_wf
  | (with_reducible apply eo_is) <;> clean_wf
  | with_reducible exact eo_no
  | array_get_dec
  | bv_omega
  | rfl
  | skip)
local macro_rules | `(tactic| symm_saturate) => `(tactic| first
  | ((with_reducible apply q_set); (focus (clean_wf; done)))
  | ((with_reducible apply s_set); (focus (clean_wf; done)))
  | ((with_reducible apply q_aug (hx := rfl)); (focus (clean_wf; done)))
  | ((with_reducible apply s_aug (hx := rfl)); (focus (clean_wf; done)))
  | ((with_reducible apply q_augC (hx := rfl)); (focus (clean_wf; done)))
  | ((with_reducible apply s_augC (hx := rfl)); (focus (clean_wf; done))))
local macro_rules | `(tactic| subst_eqs) => `(tactic| repeat' (first
  | with_reducible apply w_c
  | ((with_reducible apply w_v'); (focus rfl))
  | with_reducible apply w_op
  | with_reducible apply w_cb
  | with_reducible apply w_cons
  | with_reducible apply w_nil
  | with_reducible apply r_add
  | with_reducible apply r_sub
  | ((with_reducible apply r_mul); (focus (bv_omega; done)))
  | ((with_reducible apply r_div); (focus (bv_omega; done)))
  | ((with_reducible apply r_mod); (focus (bv_omega; done)))
  | ((with_reducible apply r_pow); (focus (bv_omega; done)))
  | with_reducible apply r_lt
  | with_reducible apply r_le
  | with_reducible apply r_gt
  | with_reducible apply r_ge
  | with_reducible apply r_min
  | with_reducible apply r_max
  | with_reducible apply r_intB
  | ((with_reducible apply r_len); (focus (array_get_dec; done)))
  | with_reducible apply w_callW
  | with_reducible apply q_setW
  | with_reducible apply s_setW
  | with_reducible apply s_retW))

theorem gn_uniq {p b x y y' : Nat} (hp : 2 ≤ p) (hx : 0 < x) (hxb : x ≤ b) (g : Gn p b x y) (g' : Gn p b x y') : y = y' := by
  obtain ⟨k, e⟩ := g.pw
  obtain ⟨k', e'⟩ := g'.pw
  have h1 := g.le hxb
  have h2 := g'.le hxb
  have h3 := g'.most hp hx (k := k) (by omega)
  have h4 := g.most hp hx (k := k') (by omega)
  omega
open Classical in
noncomputable def gro (p b x : Nat) : Nat := if h : ∃ y, Gn p b x y then Classical.choose h else 0
theorem gro_eq {p b x y : Nat} (hp : 2 ≤ p) (hx : 0 < x) (hxb : x ≤ b) (g : Gn p b x y) : gro p b x = y := by
  have h : ∃ y, Gn p b x y := ⟨y, g⟩
  unfold gro
  rw [dif_pos h]
  exact gn_uniq hp hx hxb (Classical.choose_spec h) g
theorem gro_is {p b x : Nat} (hp : 2 ≤ p) (hx : 0 < x) (hxb : x ≤ b) : Gn p b x (gro p b x) := by
  have key : ∀ d y k, b - y = d → y = x * p ^ k → y ≤ b → ∃ z, Gn p b x z := by
    intro d
    induction d using Nat.strongRecOn with
    | ind d ih =>
      intro y k hd hy hyb
      by_cases h : y * p ≤ b
      · have hy0 : 0 < y := by rw [hy]; exact Nat.mul_pos hx (Nat.pow_pos (by omega))
        have h2 : y * 2 ≤ y * p := Nat.mul_le_mul_left y hp
        exact ih (b - y * p) (by omega) (y * p) (k + 1) rfl (by rw [hy, Nat.pow_succ, Nat.mul_assoc]) h
      · exact ⟨y, ⟨k, hy⟩, by omega, fun _ => hyb⟩
  obtain ⟨z, hz⟩ := key _ x 0 rfl (by simp) hxb
  rw [gro_eq hp hx hxb hz]
  exact hz
/-! ### the last one -/
/-- what last_one tells -/
def LastV (row : List Nat) (n : Nat) (v : V) : Prop := (n < 2 ∧ v = .non) ∨ ∃ m, 2 ≤ n ∧ IsLast row n m ∧ v = .int (m : Int)
def sp_last_one (K : PySem.W.Frag) : Sp := fun vs H Q _ => Nod H ∧ ∃ (a : Addr) (row : List Nat) (n : Nat), vs = [.ref a, .int (n : Int)] ∧ H a = some (.lst (zv row)) ∧ Rw row ∧ row ≠ [] ∧ Fits (row.drop 1) (n - 1) ∧
  ∀ v, LastV row n v → Q v H
/-- slots: row number rest -/
abbrev n_last_one : List Str := ["row", "number", "rest"]
def t_last_one (K : PySem.W.Frag) : TS := (sFg (tSeq (tDrop (tCall (sp_need_row K) [] E0 (tCons (tVar 0) tNil)))
  (tSeq (tIfS (tTest (tOp oLt (tVar 1) (tC (.int 2)))) (tRet (tC .non)) tNext)
  (tRet (tFg (tCB (rMax K) (tCons (tFg (tLc (iList K (tFg (tCall (sp_made_to K) [] E0 (tCons (tSl (rSlL K) (tVar 0) (tPart (tC (.int 1))) tNoPart) (tCons (tOp oSub (tVar 1) (tC (.int 1))) tNil))))) (gName 2) tYes (tCall (sp_grown K) [] E0 (tCons (tVar 2) (tCons (tOp (rIxL K) (tVar 0) (tC (.int 0))) (tCons (tOp oSub (tVar 1) (tC (.int 1))) tNil)))) [2])) tNil)))))))
theorem r_last_one {K : PySem.W.Frag} {vs : List V} {H : Hp} {Q : VK} {E : XK} (h : sp_last_one K vs H Q E) : t_last_one K { nx := fun _ H' => Q .non H', rt := Q } (start n_last_one vs) H := by
  obtain ⟨nd, a, row, n, rfl, ha, w, hne, f, q⟩ := h
  obtain ⟨p, r, rfl⟩ := List.exists_cons_of_ne_nil hne
  have hp := w.ge List.mem_cons_self
  have g := w.good
  have hb := f.lt
  refine fg_body (need rfl ha w hne (q_whenP (by clean_wf) (fun hc => ?_) fun hc => ?_))
  · exact s_ret ev_c ⟨H, fg_same ex_refl, q _ (.inl ⟨by omega, rfl⟩)⟩
  have hn2 : 2 ≤ n := by omega
  have en : (n : Int) - 1 = ((n - 1 : Nat) : Int) := by omega
  refine s_retW (w_fg (w_cb (w_one (w_fg (w_lcLW (el_rest (b := n - 1) rfl ha w f (fun H1 => ev_eq (ev_sub (ev_v 1) ev_c) (by rw [en])) fun l p1 hl hp1 => ⟨p1, rfl, ⟨_, sq_up⟩, lcat_map (fun i => (gro p (n - 1) i.toNat : Int)) sq_up ?_ (fun _ => rfl) (fun i hi D acc hD => ?_) fun D hD => ?_⟩))))))
  · rw [zl_len, hl.len]
    exact Nat.le_trans (w.tail.fit f) (by omega)
  · obtain ⟨x, hx, rfl⟩ := List.mem_map.mp hi
    have hx0 := mk_pos w.tail.good.ge ((hl.2 x).mp hx).1
    have hxb := ((hl.2 x).mp hx).2
    obtain ⟨hD1, hD2⟩ := none_upd hD
    have hap : a ≠ p1 := ne_of_none ha hp1
    have haD : a ≠ D := ne_of_none ha hD1
    refine ev_call (ea_3 (ev_v 2) (ev_ixL (i := 0) (v := .int (p : Int)) (ev_v 0) ev_c (sq_at (by rw [upd_ne haD, upd_ne hap]; exact ha)) zv_0) (ev_sub (ev_v 1) ev_c)) fun Q q => ⟨inferInstance, x, p, n - 1, by rw [en], hx0, by omega, hp.1, hp.2, by omega, fun y gy => ?_⟩
    rw [← gro_eq hp.1 hx0 hxb gy]
    simpa using q
  · obtain ⟨hD1, hD2⟩ := none_upd hD
    refine ⟨_, fg_newL hD1 (ex_upd hD1 (ex_new hp1)) upd_same, ?_⟩
    have h1l : 1 ∈ l := (hl.2 1).mpr ⟨.one, by omega⟩
    refine ⟨D, _, rfl, sq_up, by rw [List.length_map, zl_len]; exact List.length_pos_of_mem h1l, fun m hm hall => ⟨H, fg_same (ex_new hD1), H, fg_same ex_refl, ?_⟩⟩
    obtain ⟨i, hi, rfl⟩ := List.mem_map.mp hm
    obtain ⟨x, hx, rfl⟩ := List.mem_map.mp hi
    have hxm := (hl.2 x).mp hx
    have gx := gro_is hp.1 (mk_pos w.tail.good.ge hxm.1) hxm.2
    refine q _ (.inr ⟨gro p (n - 1) x, hn2, last_of g hl ?_ ?_ fun z hz k hk => ?_, rfl⟩)
    · obtain ⟨k, e⟩ := gx.pw
      exact mk_cons.mpr ⟨k, x, e, hxm.1⟩
    · have := gx.le hxm.2; omega
    · have hzm := (hl.2 z).mp hz
      have hz0 := mk_pos w.tail.good.ge hzm.1
      have gz := gro_is hp.1 hz0 hzm.2
      have h3 := gz.most hp.1 hz0 hk
      have h4 := hall _ (List.mem_map.mpr ⟨(z : Int), List.mem_map.mpr ⟨z, hz, rfl⟩, rfl⟩)
      simp only [Int.toNat_natCast] at h4
      omega
/-! ### the first so many -/
theorem cmL {x p : Nat} (hx : x < 2 ^ 7000) (hp : p ≤ 97) : CMulW (x : Int) (p : Int) := by
  refine wide_mul (a := 7000) (b := 7) ?_ ?_ (by decide) (by decide) (by decide)
  · rw [Int.natAbs_natCast]; exact hx
  · rw [Int.natAbs_natCast]; omega
def sp_first_ones (K : PySem.W.Frag) : Sp := fun vs H Q _ => Nod H ∧ ∃ (a : Addr) (row : List Nat) (m T : Nat), vs = [.ref a, .int (m : Int)] ∧ H a = some (.lst (zv row)) ∧ Rw row ∧ row ≠ [] ∧ m ≤ 9000000 ∧ m ≤ cnt row T ∧ T < 2 ^ 7000 ∧
  ∀ (p : Addr) (l : List Nat), H p = none → IsFst row m l → Q (.ref p) (upd H p (.lst (zv l)))
/-- slots: row many found places some least place prime one -/
abbrev n_first_ones : List Str := ["row", "many", "found", "places", "some", "least", "place", "prime", "one"]
def t_first_ones (K : PySem.W.Frag) : TS := (sFg (tSeq (tDrop (tCall (sp_need_row K) [] E0 (tCons (tVar 0) tNil)))
  (tSeq (tAsg (tLst (tCons (tC (.int 1)) tNil)) (gName 2))
  (tSeq (tAsg (tFg (tOp rRep (tLst (tCons (tC (.int 0)) tNil)) (tCB (cLen K) (tCons (tVar 0) tNil)))) (gName 3))
  (tSeq (tWhile (tTest (tOp oLt (tCB (cLen K) (tCons (tVar 2) tNil)) (tVar 1))) (tSeq (tAsg (tLc (iZip K (tCons (tVar 3) (tCons (tVar 0) tNil))) (gTup K 2 (gCons (gName 6) (gCons (gName 7) gNil))) tYes (tOp oMul (tOp (rIxL K) (tVar 2) (tVar 6)) (tVar 7)) [6, 7]) (gName 4))
  (tSeq (tAsg (tCB (rMin K) (tCons (tVar 4) tNil)) (gName 5))
  (tSeq (tDrop (tBM K "list" rAppend (tVar 2) (tCons (tVar 5) tNil)))
  (tAsg (tLc (iZip K (tCons (tVar 3) (tCons (tVar 4) tNil))) (gTup K 2 (gCons (gName 6) (gCons (gName 8) gNil))) tYes (tOp oAdd (tVar 6) (tCB cInt (tCons (tOp rEq (tVar 8) (tVar 5)) tNil))) [6, 8]) (gName 3))))))
  (tRet (tSl (rSlL K) (tVar 2) tNoPart (tPart (tVar 1)))))))))
def prods (F pl row : List Nat) : List Nat := (pl.zip row).map fun q => F.getD q.1 0 * q.2
def moved (pl S : List Nat) (m : Nat) : List Nat := (pl.zip S).map fun q => q.1 + if q.2 = m then 1 else 0
theorem prods_len {F pl row : List Nat} (h : pl.length = row.length) : (prods F pl row).length = row.length := by simp [prods, h]
theorem prods_get {F pl row : List Nat} {j k p x : Nat} (h1 : row[j]? = some p) (h2 : pl[j]? = some k) (h3 : F[k]? = some x) : (prods F pl row)[j]? = some (x * p) := by
  unfold prods
  rw [List.getElem?_map, (List.getElem?_zip_eq_some (z := (k, p))).mpr ⟨h2, h1⟩]
  simp [List.getD_eq_getElem?_getD, h3]
theorem moved_get {pl S : List Nat} {j k s m : Nat} (h1 : pl[j]? = some k) (h2 : S[j]? = some s) : (moved pl S m)[j]? = some (k + if s = m then 1 else 0) := by
  unfold moved
  rw [List.getElem?_map, (List.getElem?_zip_eq_some (z := (k, s))).mpr ⟨h1, h2⟩]; rfl
theorem take_snoc {l : List Nat} {i x : Nat} (h : l[i]? = some x) : l.take (i + 1) = l.take i ++ [x] := by rw [List.take_add_one, h]; rfl
theorem zv_some {l : List Nat} {i : Nat} {v : V} (h : (zv l)[i]? = some v) : ∃ x : Nat, l[i]? = some x ∧ v = .int (x : Int) := by
  simp only [List.getElem?_map] at h
  cases e : l[i]? with
  | none => rw [e] at h; cases h
  | some x => rw [e] at h; cases h; exact ⟨x, rfl, rfl⟩
theorem r_first_ones {K : PySem.W.Frag} {vs : List V} {H : Hp} {Q : VK} {E : XK} (h : sp_first_ones K vs H Q E) : t_first_ones K { nx := fun _ H' => Q .non H', rt := Q } (start n_first_ones vs) H := by
  obtain ⟨nd, a, row, m, T, rfl, ha, w, hne, hm, hmT, hT, q⟩ := h
  have g := w.good
  have hl6 := w.le
  have hl0 : 0 < row.length := List.length_pos_iff.mpr hne
  have sa : SqL K H a (zv row) := sq_at ha
  refine fg_body (need rfl ha w hne (q_setL (el_lst (ea_1 ev_c) (by simp)) fun pf hpf => ?_))
  have o : Own H [(pf, zv [1])] (upd H pf (.lst [.int 1])) := Own.nil.new hpf
  refine q_setL (xs := zv (List.replicate row.length 0)) (el_fg fun Q q => w_op (w_evL (el_lst (ea_1 ev_c) (by simp)) fun p1 hp1 => w_ev (ev_len (ev_v 0) (sq_new hp1 (o.sq sa))) ⟨p1, _, _, rfl, rfl, upd_same, by rw [zv_len]; omega, by rw [zv_len]; omega, ?_, fun p2 hp2 => ?_⟩)) fun pp hpp => ?_
  · rw [zv_len]; exact Nat.le_trans (by simp; omega : _ ≤ 1000) (by decide)
  · obtain ⟨h1, h2⟩ := none_upd hp2
    refine q p2 _ h1 (ex_upd h1 (ex_new hp1)) ?_
    rw [upd_same]
    simp
  replace o := o.new (xs := zv (List.replicate row.length 0)) hpp
  refine q_whileP (fun k σ' H' => ∃ (F pl : List Nat) (c : Nat) (pp : Addr) (y4 y5 y6 y7 y8 : Option V), σ' = [some (.ref a), some (.int (m : Int)), some (.ref pf), some (.ref pp), y4, y5, none, none, none] ∧ Own H [(pp, zv pl), (pf, zv F)] H' ∧ FS row F pl c ∧ k = m - F.length ∧ (F.length ≤ m ∨ F.length = 1)) (m - 1)
    ⟨[1], _, 1, pp, none, none, none, none, none, rfl, o, .start g.ge, rfl, .inr rfl⟩ (fun k σ' H' hw => ?_)
  obtain ⟨F, pl, c, pp, y4, y5, y6, y7, y8, rfl, o, fs, rfl, hF⟩ := hw
  have hFc := fs.flen
  refine ⟨_, ep_lt (ev_len (ev_v 2) (o.sqi 1 rfl)) (ev_v 1), fun hc => ?_, fun hc => ?_⟩
  · rw [zv_len] at hc
    have hFm : F.length < m := by omega
    have hcT : c ≤ T := fst_le fs.mkc (by omega : cnt row c ≤ m) hmT
    have hFx : ∀ {j x : Nat}, F[j]? = some x → x ≤ c := fun {j x} hj => by
      have := List.mem_of_getElem? hj
      rw [fs.eq] at this
      exact (allL_mem.mp this).2
    have hpr : ∀ {j p : Nat}, row[j]? = some p → 2 ≤ p ∧ p ≤ 97 := fun hj => w.ge (List.mem_of_getElem? hj)
    have hplen := fs.len
    -- some = [..]
    refine q_setW (w_lcZ (ea_2 (ev_v 3) (ev_v 0) _ ⟨pp, a, zv pl, zv row, rfl, o.sqi 0 rfl, o.sq sa, lcat_zip (fun D i H' => Own H [(D, zv ((prods F pl row).take i)), (pp, zv pl), (pf, zv F)] H') (fun D hD => o.new hD) (fun D i H' hD o => ⟨o.sqi 1 rfl, o.sq sa⟩) (fun x y => rfl) (fun D i x y Tp H' hD hx hy o hTp => ?_) fun D H' hD o => ?_⟩))
    · obtain ⟨k, hk, rfl⟩ := zv_some hx
      obtain ⟨p, hp, rfl⟩ := zv_some hy
      obtain ⟨z, hz, _, _⟩ := fs.ok i p k hp hk
      have hkl : k < F.length := (List.getElem?_eq_some_iff.mp hz).1
      have hzc := hFx hz
      have o2 := o.tup (xs := [V.int (k : Int), .int (p : Int)]) hTp
      have eF : F[k] = z := (List.getElem?_eq_some_iff.mp hz).2
      refine et_yes _ (iteT (ev_mul (i := (z : Int)) (j := (p : Int)) (ev_ixL (i := (k : Int)) (ev_v 2) (ev_v 6) (o2.sqi 2 rfl) (by rw [zv_at hkl, eF])) (ev_v 7) (cmL (by omega) (hpr hp).2) _ ⟨_, o2.atI 0 rfl, ?_, ?_⟩))
      · rw [zv_len, List.length_take]; exact szl (by rw [prods_len hplen]; omega)
      · rw [take_snoc (prods_get hp hk hz), zv_app]
        have := o2.mut (ys := zv ((prods F pl row).take i) ++ [V.int ((z * p : Nat) : Int)]) 0 rfl
        simpa using this
    · rw [zv_len, zv_len, hplen, Nat.min_self, List.take_of_length_le (by rw [prods_len hplen]; omega)] at o
      have hS : 0 < (prods F pl row).length := by rw [prods_len hplen]; exact hl0
      -- least = min(some)
      refine q_setW (w_cb (w_one (w_v 4 ⟨D, zl (prods F pl row), rfl, o.sqi 0 rfl, by rw [zl_len]; exact hS, fun mm hmm hall => ?_⟩)))
      obtain ⟨ms, hms, rfl⟩ := List.mem_map.mp hmm
      have hle : ∀ j p k x : Nat, row[j]? = some p → pl[j]? = some k → F[k]? = some x → ms ≤ x * p := fun j p k x h1 h2 h3 => by
        have := hall _ (List.mem_map.mpr ⟨x * p, List.mem_of_getElem? (prods_get h1 h2 h3), rfl⟩)
        omega
      have hex : ∃ j p k x : Nat, row[j]? = some p ∧ pl[j]? = some k ∧ F[k]? = some x ∧ ms = x * p := by
        obtain ⟨j, hj⟩ := List.mem_iff_getElem?.mp hms
        have hjl : j < row.length := by rw [← prods_len (F := F) hplen]; exact (List.getElem?_eq_some_iff.mp hj).1
        have h1 := List.getElem?_eq_getElem hjl
        have h2 := List.getElem?_eq_getElem (show j < pl.length by omega)
        obtain ⟨x, hx, _, _⟩ := fs.ok j _ _ h1 h2
        refine ⟨j, _, _, x, h1, h2, hx, ?_⟩
        rw [prods_get h1 h2 hx] at hj
        exact (Option.some.inj hj).symm
      have nx := fs.next g hex hle
      -- found.append(least)
      refine q_seq (s_app (o.atI 2 rfl) (by rw [zv_len]; exact szl (by omega)) (ev_v 2) (ev_v 5) ?_)
      rw [zv_one]
      replace o := o.mut (ys := zv (F ++ [ms])) 2 rfl
      refine s_setW (w_lcZ (ea_2 (ev_v 3) (ev_v 4) _ ⟨pp, D, zv pl, zv (prods F pl row), rfl, o.sqi 1 rfl, o.sqi 0 rfl, lcat_zip (fun D2 i H' => Own H [(D2, zv ((moved pl (prods F pl row) ms).take i)), (D, zv (prods F pl row)), (pp, zv pl), (pf, zv (F ++ [ms]))] H') (fun D hD => o.new hD) (fun D i H' hD o => ⟨o.sqi 2 rfl, o.sqi 1 rfl⟩) (fun x y => rfl) (fun D2 i x y Tp H' hD hx hy o hTp => ?_) fun D2 H' hD o => ?_⟩))
      · obtain ⟨k, hk, rfl⟩ := zv_some hx
        obtain ⟨sv, hs, rfl⟩ := zv_some hy
        have o2 := o.tup (xs := [V.int (k : Int), .int (sv : Int)]) hTp
        have hi : i < row.length := by have := (List.getElem?_eq_some_iff.mp hk).1; omega
        refine et_yes _ (iteT (ev_add (i := (k : Int)) (ev_v 6) (ev_intB (ev_eqi (i := (sv : Int)) (j := (ms : Int)) (ev_v 8) (ev_v 5))) _ ⟨_, o2.atI 0 rfl, ?_, ?_⟩))
        · rw [zv_len, List.length_take]; exact szl (by omega)
        · rw [take_snoc (moved_get hk hs), zv_app]
          have := o2.mut (ys := zv ((moved pl (prods F pl row) ms).take i) ++ [V.int ((k + if sv = ms then 1 else 0 : Nat) : Int)]) 0 rfl
          have e : ((k : Int) + if decide ((sv : Int) = (ms : Int)) = true then 1 else 0) = ((k + if sv = ms then 1 else 0 : Nat) : Int) := by
            by_cases h : sv = ms
            · simp [h]
            · have h' : ¬ (sv : Int) = (ms : Int) := by omega
              simp [h, h']
          rw [e]
          simpa using this
      · have hml : (moved pl (prods F pl row) ms).length = pl.length := by simp [moved, prods_len hplen, hplen]
        rw [zv_len, zv_len, prods_len hplen, hplen, Nat.min_self, List.take_of_length_le (by omega)] at o
        refine ⟨m - (F ++ [ms]).length, by simp; omega, F ++ [ms], _, ms, D2, _, _, none, none, none, rfl, o.drop2.drop2, fs.step nx hml (fun j p k x h1 h2 h3 => ?_) hle g.ge, rfl, .inl (by simp; omega)⟩
        rw [moved_get h2 (prods_get h1 h2 h3)]
        split <;> simp
  · rw [zv_len] at hc
    refine s_retL (el_sl (ev_v 2) eo_no (eo_is (ev_v 1)) (o.sqi 1 rfl)) fun pr hpr => ?_
    rw [cut_toN]
    replace o := o.new (xs := zv (F.take m)) hpr
    refine ⟨_, o.ret 0 rfl, q pr _ (o.offI 0 rfl) ?_⟩
    by_cases h0 : m = 0
    · subst h0
      exact .inl ⟨rfl, by simp⟩
    · have : F.length = m := by omega
      rw [List.take_of_length_le (by omega)]
      exact .inr ⟨c, fs.mkc, by omega, fs.eq⟩
end Px
set_option linter.all false
set_option maxHeartbeats 1000000
namespace MA
theorem least_of {P : Nat → Prop} {n : Nat} (h : P n) : ∃ m, P m ∧ ∀ k, P k → m ≤ k := by
  induction n using Nat.strongRecOn with
  | ind n ih =>
    by_cases c : ∃ k, k < n ∧ P k
    · obtain ⟨k, hk, hp⟩ := c
      exact ih k hk hp
    · exact ⟨n, h, fun k hk => by
        rcases Nat.lt_or_ge k n with z | z
        · exact absurd ⟨k, z, hk⟩ c
        · exact z⟩
theorem most_of {P : Nat → Prop} {n b : Nat} (h : P n) (hb : n ≤ b) : ∃ m, P m ∧ m ≤ b ∧ ∀ k, P k → k ≤ b → k ≤ m := by
  obtain ⟨d, ⟨h1, h2⟩, h3⟩ := least_of (P := fun d => P (b - d) ∧ d ≤ b) (n := b - n) ⟨by rw [show b - (b - n) = n by omega]; exact h, by omega⟩
  exact ⟨b - d, h1, by omega, fun k hk hkb => by
    have := h3 (b - k) ⟨by rw [show b - (b - k) = k by omega]; exact hk, by omega⟩
    omega⟩
theorem lt_pow {p n : Nat} (hp : 2 ≤ p) : n < p ^ n := Nat.lt_of_lt_of_le Nat.lt_two_pow_self (Nat.pow_le_pow_left hp n)
theorem next_ex {row : List Nat} (g : Good row) (hne : row ≠ []) (n : Nat) : ∃ m, IsNext row n m := by
  obtain ⟨p, r, rfl⟩ := List.exists_cons_of_ne_nil hne
  obtain ⟨m, ⟨h1, h2⟩, h3⟩ := least_of (P := fun m => Mk (p :: r) m ∧ n < m) (n := p ^ n) ⟨mk_pow List.mem_cons_self n, lt_pow g.head⟩
  exact ⟨m, h1, h2, fun k hk hn => h3 k ⟨hk, hn⟩⟩
theorem last_ex {row : List Nat} {n : Nat} (hn : 2 ≤ n) : ∃ m, IsLast row n m := by
  obtain ⟨m, h1, h2, h3⟩ := most_of (P := Mk row) (n := 1) (b := n - 1) .one (by omega)
  exact ⟨m, h1, by omega, fun k hk hkn => h3 k hk (by omega)⟩
open Classical in
noncomputable def nxt (row : List Nat) (n : Nat) : Nat := if h : ∃ m, IsNext row n m then Classical.choose h else 0
theorem nxt_is {row : List Nat} (g : Good row) (hne : row ≠ []) (n : Nat) : IsNext row n (nxt row n) := by
  have h := next_ex g hne n
  unfold nxt
  rw [dif_pos h]
  exact Classical.choose_spec h
theorem nxt_eq {row : List Nat} {n m : Nat} (h : IsNext row n m) : nxt row n = m := by
  have h' : ∃ m, IsNext row n m := ⟨m, h⟩
  unfold nxt
  rw [dif_pos h']
  exact (Classical.choose_spec h').uniq h
open Classical in
noncomputable def lst (row : List Nat) (n : Nat) : Nat := if h : ∃ m, IsLast row n m then Classical.choose h else 0
theorem lst_is {row : List Nat} {n : Nat} (hn : 2 ≤ n) : IsLast row n (lst row n) := by
  have h := last_ex (row := row) hn
  unfold lst
  rw [dif_pos h]
  exact Classical.choose_spec h
theorem lst_eq {row : List Nat} {n m : Nat} (h : IsLast row n m) : lst row n = m := by
  have h' : ∃ m, IsLast row n m := ⟨m, h⟩
  unfold lst
  rw [dif_pos h']
  exact (Classical.choose_spec h').uniq h
noncomputable def nth (row : List Nat) : Nat → Nat
  | 0 => 1
  | k + 1 => nxt row (nth row k)
theorem nth_mk {row : List Nat} (g : Good row) (hne : row ≠ []) : ∀ k, Mk row (nth row k)
  | 0 => .one
  | k + 1 => (nxt_is g hne _).made
theorem cnt_one {row : List Nat} (g : ∀ p ∈ row, 2 ≤ p) : cnt row 1 = 1 := by rw [show (1 : Nat) = 0 + 1 from rfl, cnt_yes .one, cnt_zero g]
theorem nth_cnt {row : List Nat} (g : Good row) (hne : row ≠ []) : ∀ k, cnt row (nth row k) = k + 1
  | 0 => cnt_one g.ge
  | k + 1 => by
    show cnt row (nxt row (nth row k)) = _
    rw [cnt_next (nxt_is g hne _), nth_cnt g hne k]
theorem nth_all {row : List Nat} (g : Good row) (hne : row ≠ []) : ∀ k, allL row (nth row k) = (List.range (k + 1)).map (nth row)
  | 0 => by
    have h : allL row 1 = allL row 0 ++ [1] := allL_succ_yes .one
    show allL row 1 = _
    rw [h, show allL row 0 = [] from List.length_eq_zero_iff.mp (cnt_zero g.ge)]
    rfl
  | k + 1 => by
    show allL row (nxt row (nth row k)) = _
    rw [allL_next (nxt_is g hne _), nth_all g hne k, List.range_succ (n := k + 1), List.map_append]
    rfl
noncomputable def fst (row : List Nat) (m : Nat) : List Nat := (List.range m).map (nth row)
theorem fst_len {row : List Nat} {m : Nat} : (fst row m).length = m := by simp [fst]
theorem fst_get {row : List Nat} {m i : Nat} (h : i < m) : (fst row m)[i]? = some (nth row i) := by simp [fst, h]
theorem fst_is {row : List Nat} (g : Good row) (hne : row ≠ []) (m : Nat) : IsFst row m (fst row m) := by
  cases m with
  | zero => exact .inl ⟨rfl, rfl⟩
  | succ m => exact .inr ⟨nth row m, nth_mk g hne m, nth_cnt g hne m, (nth_all g hne m).symm⟩
theorem fst_eq {row l : List Nat} (g : Good row) (hne : row ≠ []) {m : Nat} (h : IsFst row m l) : l = fst row m := h.uniq g.ge (fst_is g hne m)
theorem nth_le {row : List Nat} (g : Good row) (hne : row ≠ []) {k T : Nat} (h : k < cnt row T) : nth row k ≤ T := fst_le (nth_mk g hne k) (Nat.le_of_eq (nth_cnt g hne k)) h
/-- a made number stands at its place -/
theorem nth_of {row : List Nat} (g : Good row) (hne : row ≠ []) {n : Nat} (h : Mk row n) : nth row (cnt row n - 1) = n := by
  have h0 := cnt_pos (row := row) (mk_pos g.ge h)
  exact mk_inj (nth_mk g hne _) h (by rw [nth_cnt g hne]; omega)
theorem fst_all {row : List Nat} (g : Good row) (hne : row ≠ []) (b : Nat) : fst row (cnt row b) = allL row b := by
  by_cases h : b = 0
  · subst h
    rw [cnt_zero g.ge, show allL row 0 = [] from List.length_eq_zero_iff.mp (cnt_zero g.ge)]; rfl
  · have h0 := cnt_pos (row := row) (b := b) (by omega)
    have e : allL row (nth row (cnt row b - 1)) = allL row b := by
      have hle := nth_le g hne (k := cnt row b - 1) (T := b) (by omega)
      refine (allL_gap hle fun n h1 h2 hn => ?_).symm
      have h3 := cnt_lt h1 hn
      rw [nth_cnt g hne] at h3
      have := cnt_mono (row := row) h2
      omega
    rw [← e, nth_all g hne, show cnt row b - 1 + 1 = cnt row b by omega]; rfl
/-- enough of them: the powers of one prime -/
theorem cnt_pow {row : List Nat} {p : Nat} (hp : p ∈ row) (h2 : 2 ≤ p) (k : Nat) : k + 1 ≤ cnt row (p ^ k) := by
  have : ((List.range (k + 1)).map fun i => p ^ i).length ≤ cnt row (p ^ k) := cnt_le ?_ fun n hn => by
    obtain ⟨i, hi, rfl⟩ := List.mem_map.mp hn
    exact ⟨mk_pow hp i, Nat.pow_le_pow_right (by omega) (by have := List.mem_range.mp hi; omega)⟩
  · simpa using this
  · refine List.pairwise_map.mpr (List.nodup_range.imp fun ne e => ne ?_)
    exact (Nat.pow_right_inj (by omega)).mp e
end MA
set_option Elab.async false
set_option linter.all false
set_option maxRecDepth 100000
set_option maxHeartbeats 4000000
namespace Px
open PySem L2 MA
local macro_rules | `(tactic| bv_omega) => `(tactic| first | assumption | omega | exact cm (by omega) | exact cd (by omega) | exact cp (by omega) | exact trivial)
local macro_rules | `(tactic| array_get_dec) => `(tactic| first
  | assumption
  | exact sq_up
  | exact Own.sqi (by assumption) 0 (by rfl)
  | exact Own.sqi (by assumption) 1 (by rfl)
  | exact Own.sqi (by assumption) 2 (by rfl)
  | exact Own.sqi (by assumption) 3 (by rfl)
  | exact Own.sqi (by assumption) 4 (by rfl)
  | exact Own.sq (by assumption) (by assumption)
  | exact sq_new (by assumption) (by assumption))
local macro_rules | `(tactic| clean_wf) => `(tactic| first
  | with_reducible exact ev_c
  | (with_reducible apply ev_v') <;> rfl
  | (with_reducible apply ev_add) <;> clean_wf
  | (with_reducible apply ev_sub) <;> clean_wf
  | (with_reducible apply ev_mul) <;> clean_wf
  | (with_reducible apply ev_mod) <;> clean_wf
  | (with_reducible apply ev_div) <;> clean_wf
  | (with_reducible apply ev_pow) <;> clean_wf
  | (with_reducible apply ev_neg) <;> clean_wf
  | (with_reducible apply ev_lt) <;> clean_wf
  | (with_reducible apply ev_le) <;> clean_wf
  | (with_reducible apply ev_gt) <;> clean_wf
  | (with_reducible apply ev_ge) <;> clean_wf
  | (with_reducible apply ev_eqi) <;> clean_wf
  | (with_reducible apply ev_nei) <;> clean_wf
  | (with_reducible apply ev_len) <;> clean_wf
  | (with_reducible apply ev_ixL) <;> clean_wf
  | (with_reducible apply ev_min) <;> clean_wf
  | (with_reducible apply ev_max) <;> clean_wf
  | (with_reducible apply ev_abs) <;> clean_wf
  | (with_reducible apply ev_intB) <;> clean_wf
  | (with_reducible apply ea_1) <;> clean_wf
  | (with_reducible apply ea_2) <;> clean_wf
  | (with_reducible apply ea_3) <;> clean_wf
  | with_reducible exact ea_nil
  | (with_reducible apply ea_cons) <;> clean_wf
  | with_reducible exact el_nil
  | (with_reducible apply ep_lt) <;> clean_wf
  | (with_reducible apply ep_le) <;> clean_wf
  | (with_reducible apply ep_gt) <;> clean_wf
  | (with_reducible apply ep_ge) <;> clean_wf
  | (with_reducible apply ep_eqi) <;> clean_wf
  | (with_reducible apply ep_nei) <;> clean_wf
  | (with_reducible apply ep_not) <;> clean_wf
  | ((with_reducible apply ep_and) <;> first | (intro _; clean_wf; done) | clean_wf)
  | ((with_reducible apply ep_or) <;> first | (intro _; clean_wf; done) | clean_wf)
  | (with_reducible apply et_t) <;> clean_wf
  | (with_reducible apply eo_is) <;> clean_wf
  | with_reducible exact eo_no
  | array_get_dec
  | bv_omega
  | rfl
  | skip)
local macro_rules | `(tactic| symm_saturate) => `(tactic| first
  | ((with_reducible apply q_set); (focus (clean_wf; done)))
  | ((with_reducible apply s_set); (focus (clean_wf; done)))
  | ((with_reducible apply q_aug (hx := rfl)); (focus (clean_wf; done)))
  | ((with_reducible apply s_aug (hx := rfl)); (focus (clean_wf; done)))
  | ((with_reducible apply q_augC (hx := rfl)); (focus (clean_wf; done)))
  | ((with_reducible apply s_augC (hx := rfl)); (focus (clean_wf; done))))
local macro_rules | `(tactic| subst_eqs) => `(tactic| repeat' (first
  | with_reducible apply w_c
  | ((with_reducible apply w_v'); (focus rfl))
  | with_reducible apply w_op
  | with_reducible apply w_cb
  | with_reducible apply w_cons
  | with_reducible apply w_nil
  | with_reducible apply r_add
  | with_reducible apply r_sub
  | ((with_reducible apply r_mul); (focus (bv_omega; done)))
  | ((with_reducible apply r_div); (focus (bv_omega; done)))
  | ((with_reducible apply r_mod); (focus (bv_omega; done)))
  | ((with_reducible apply r_pow); (focus (bv_omega; done)))
  | with_reducible apply r_lt
  | with_reducible apply r_le
  | with_reducible apply r_gt
  | with_reducible apply r_ge
  | with_reducible apply r_min
  | with_reducible apply r_max
  | with_reducible apply r_intB
  | ((with_reducible apply r_len); (focus (array_get_dec; done)))
  | with_reducible apply w_callW
  | with_reducible apply q_setW
  | with_reducible apply s_setW
  | with_reducible apply s_retW))

/-- a row stands at a -/
structure RowAt (H : Hp) (a : Addr) (row : List Nat) : Prop where
  at_ : H a = some (.lst (zv row))
  w : Rw row
  ne : row ≠ []
theorem RowAt.ex {H H' : Hp} {a : Addr} {row : List Nat} (r : RowAt H a row) (e : Ex H H') : RowAt H' a row := ⟨e _ _ r.at_, r.w, r.ne⟩
theorem RowAt.g {H : Hp} {a : Addr} {row : List Nat} (r : RowAt H a row) : Good row := r.w.good
theorem RowAt.sq {K : PySem.W.Frag} {H : Hp} {a : Addr} {row : List Nat} (r : RowAt H a row) : SqL K H a (zv row) := sq_at r.at_
theorem RowAt.len {H : Hp} {a : Addr} {row : List Nat} (r : RowAt H a row) : 0 < row.length ∧ row.length ≤ 6 := ⟨List.length_pos_iff.mpr r.ne, r.w.le⟩
theorem topN_next {row : List Nat} (w : Rw row) (hne : row ≠ []) {n : Nat} (h : n ≤ topN row) : Fits (row.drop 1) (n * 97) ∧ n < 2 ^ 63 := by
  have h0 : 0 < row.length := List.length_pos_iff.mpr hne
  have := w.le
  unfold topN at h
  unfold Fits
  rw [List.length_drop]
  split at h <;> omega
section
variable {K : PySem.W.Frag} {σ : L2.St} {H : Hp} {ta tb tc : TE} {a : Addr} {row : List Nat} {b n lo hi m T : Nat}
open Classical in
theorem e_made [nd : Nod H] (r : RowAt H a row) (ha : Ev ta σ H (.ref a)) (hb : Ev tb σ H (.int (n : Int))) : Ev (tCall (sp_is_made_of K) [] E0 (tCons ta (tCons tb tNil))) σ H (.bl (decide (0 < n ∧ Mk row n))) := ev_call (ea_2 ha hb) fun Q q => ⟨nd, a, row, n, rfl, r.at_, r.w, r.ne, q⟩
theorem e_many [nd : Nod H] (r : RowAt H a row) (f : Fits row b) (ha : Ev ta σ H (.ref a)) (hb : Ev tb σ H (.int (b : Int))) : Ev (tCall (sp_many_to K) [] E0 (tCons ta (tCons tb tNil))) σ H (.int (cnt row b : Int)) := ev_call (ea_2 ha hb) fun Q q => ⟨nd, a, row, b, rfl, r.at_, r.w, r.ne, f, q⟩
theorem e_between [nd : Nod H] (r : RowAt H a row) (f : Fits row hi) (ha : Ev ta σ H (.ref a)) (hb : Ev tb σ H (.int (lo : Int))) (hc : Ev tc σ H (.int (hi : Int))) : Ev (tCall (sp_many_between K) [] E0 (tCons ta (tCons tb (tCons tc tNil)))) σ H (.int (if hi < lo then 0 else (cnt row hi : Int) - (cnt row (lo - 1) : Int))) := ev_call (ea_3 ha hb hc) fun Q q => ⟨nd, a, row, lo, hi, rfl, r.at_, r.w, r.ne, f, q⟩
theorem e_next [nd : Nod H] (r : RowAt H a row) (f : Fits (row.drop 1) (n * 97) ∧ n < 2 ^ 63) (ha : Ev ta σ H (.ref a)) (hb : Ev tb σ H (.int (n : Int))) : Ev (tCall (sp_next_one K) [] E0 (tCons ta (tCons tb tNil))) σ H (.int (nxt row n : Int)) := ev_call (ea_2 ha hb) fun Q q => ⟨nd, a, row, n, rfl, r.at_, r.w, r.ne, f.1, f.2, fun m hm => by rw [nxt_eq hm] at q; exact q⟩
noncomputable def lastV (row : List Nat) (n : Nat) : V := if n < 2 then .non else .int (lst row n : Int)
theorem e_last [nd : Nod H] (r : RowAt H a row) (f : Fits (row.drop 1) (n - 1)) (ha : Ev ta σ H (.ref a)) (hb : Ev tb σ H (.int (n : Int))) : Ev (tCall (sp_last_one K) [] E0 (tCons ta (tCons tb tNil))) σ H (lastV row n) := ev_call (ea_2 ha hb) fun Q q => ⟨nd, a, row, n, rfl, r.at_, r.w, r.ne, f, fun v hv => by
  rcases hv with ⟨h1, rfl⟩ | ⟨m, h1, h2, rfl⟩
  · rw [lastV, if_pos h1] at q; exact q
  · rw [lastV, if_neg (by omega), lst_eq h2] at q; exact q⟩
theorem e_all [nd : Nod H] (r : RowAt H a row) (f : Fits row b) (ha : Ev ta σ H (.ref a)) (hb : Ev tb σ H (.int (b : Int))) : EvL (tCall (sp_all_to K) [] E0 (tCons ta (tCons tb tNil))) σ H (zv (allL row b)) := el_call (ea_2 ha hb) fun Q q => ⟨nd, a, row, b, rfl, r.at_, r.w, r.ne, f, q⟩
theorem e_first [nd : Nod H] (r : RowAt H a row) (hm : m ≤ 9000000 ∧ m ≤ cnt row T) (hT : T < 2 ^ 7000) (ha : Ev ta σ H (.ref a)) (hb : Ev tb σ H (.int (m : Int))) : EvL (tCall (sp_first_ones K) [] E0 (tCons ta (tCons tb tNil))) σ H (zv (fst row m)) := el_call (ea_2 ha hb) fun Q q => ⟨nd, a, row, m, T, rfl, r.at_, r.w, r.ne, hm.1, hm.2, hT, fun p l hp hl => by rw [fst_eq r.g r.ne hl]; exact q p hp⟩
end
/-! ### by place -/
def sp_one_at (K : PySem.W.Frag) : Sp := fun vs H Q _ => Nod H ∧ ∃ (a : Addr) (row : List Nat) (k T : Nat), vs = [.ref a, .int (k : Int)] ∧ RowAt H a row ∧ k < 9000000 ∧ k < cnt row T ∧ T < 2 ^ 7000 ∧ Q (.int (nth row k : Int)) H
/-- slots: row place -/
abbrev n_one_at : List Str := ["row", "place"]
def t_one_at (K : PySem.W.Frag) : TS := (sFg (tSeq (tDrop (tCall (sp_need_row K) [] E0 (tCons (tVar 0) tNil)))
  (tSeq (tIfS (tOr (tNot (tB (tCall (sp_is_whole K) [] E0 (tCons (tVar 1) tNil)))) (tTest (tOp oLt (tVar 1) (tC (.int 0))))) tNever tNext)
  (tRet (tFg (tOp (rIxL K) (tCall (sp_first_ones K) [] E0 (tCons (tVar 0) (tCons (tOp oAdd (tVar 1) (tC (.int 1))) tNil))) (tVar 1)))))))
theorem r_one_at {K : PySem.W.Frag} {vs : List V} {H : Hp} {Q : VK} {E : XK} (h : sp_one_at K vs H Q E) : t_one_at K { nx := fun _ H' => Q .non H', rt := Q } (start n_one_at vs) H := by
  obtain ⟨nd, a, row, k, T, rfl, r, hk, hkT, hT, q⟩ := h
  refine fg_body (need rfl r.at_ r.w r.ne (q_never (ep_or (ep_not (ep_b (ev_call (v := .bl true) (ea_1 (ev_v 1)) fun Q q => ⟨nd, _, rfl, q⟩))) fun _ => by clean_wf) (by simp) ?_))
  refine s_ret (ev_pick (v := .int (nth row k : Int)) (e_first (m := k + 1) (T := T) r ⟨by omega, by omega⟩ hT (ev_v 0) (ev_eq (ev_add (i := (k : Int)) (ev_v 1) ev_c) rfl)) (fun p hp => ev_v 1) ?_) ⟨H, fg_same ex_refl, q⟩
  exact at_of rfl (zv_get (fst_get (by omega)))
def sp_place_of (K : PySem.W.Frag) : Sp := fun vs H Q _ => Nod H ∧ ∃ (a : Addr) (row : List Nat) (n : Nat), vs = [.ref a, .int (n : Int)] ∧ RowAt H a row ∧ Mk row n ∧ Fits row n ∧ Q (.int ((cnt row n - 1 : Nat) : Int)) H
/-- slots: row thing -/
abbrev n_place_of : List Str := ["row", "thing"]
def t_place_of (K : PySem.W.Frag) : TS := (sFg (tSeq (tIfS (tNot (tB (tCall (sp_is_made_of K) [] E0 (tCons (tVar 0) (tCons (tVar 1) tNil))))) tNever tNext)
  (tRet (tOp oSub (tCall (sp_many_to K) [] E0 (tCons (tVar 0) (tCons (tVar 1) tNil))) (tC (.int 1))))))
open Classical in
theorem r_place_of {K : PySem.W.Frag} {vs : List V} {H : Hp} {Q : VK} {E : XK} (h : sp_place_of K vs H Q E) : t_place_of K { nx := fun _ H' => Q .non H', rt := Q } (start n_place_of vs) H := by
  obtain ⟨nd, a, row, n, rfl, r, hm, f, q⟩ := h
  have h0 := mk_pos r.g.ge hm
  have hc := cnt_pos (row := row) h0
  refine fg_body (q_never (ep_not (ep_bd (e_made r (ev_v 0) (ev_v 1)))) (fun z => z ⟨h0, hm⟩) (s_ret (ev_eq (ev_sub (e_many r f (ev_v 0) (ev_v 1)) ev_c) ?_) ⟨H, fg_same ex_refl, q⟩))
  congr 1
  omega
end Px
set_option linter.all false
set_option maxHeartbeats 1000000
namespace MA
/-! ### counting by the split, with fuel -/
def cntF : Nat → List Nat → Nat → Nat
  | 0, _, _ => 0
  | _ + 1, [], b => if b = 0 then 0 else 1
  | f + 1, p :: r, b => if b = 0 then 0 else cntF f r b + cntF f (p :: r) (b / p)
theorem cnt_nil_eq {b : Nat} (h : b ≠ 0) : cnt [] b = 1 := by rw [← (all_nil (b := b) (by omega)).len]; rfl
theorem cntF_eq : ∀ (f : Nat) (row : List Nat) (b k : Nat), Good row → b < 2 ^ k → row.length + k < f → cntF f row b = cnt row b
  | 0, _, _, _, _, _, h => by omega
  | f + 1, [], b, k, g, _, _ => by
    show (if b = 0 then 0 else 1) = _
    by_cases h : b = 0
    · subst h; rw [if_pos rfl, cnt_zero g.ge]
    · rw [if_neg h, cnt_nil_eq h]
  | f + 1, p :: r, b, k, g, hb, hf => by
    show (if b = 0 then 0 else cntF f r b + cntF f (p :: r) (b / p)) = _
    by_cases h : b = 0
    · subst h; rw [if_pos rfl, cnt_zero g.ge]
    · rw [List.length_cons] at hf
      cases k with
      | zero => simp at hb; omega
      | succ k =>
        have hp := g.head
        have h1 : b / p ≤ b / 2 := Nat.div_le_div_left hp (by omega)
        rw [Nat.pow_succ] at hb
        rw [if_neg h, cntF_eq f r b (k + 1) g.tail (by rw [Nat.pow_succ]; omega) (by omega), cntF_eq f (p :: r) (b / p) k g (by omega) (by rw [List.length_cons]; omega), ← cnt_split g]
theorem cnt_c {row : List Nat} {b c : Nat} (g : Good row) (hb : b < 2 ^ 70) (hl : row.length ≤ 6) (h : cntF 80 row b = c) : cnt row b = c := by rw [← h]; exact (cntF_eq 80 row b 70 g hb (by omega)).symm
theorem mk_of_cnt {row : List Nat} {m : Nat} (h : cnt row m = cnt row (m - 1) + 1) : Mk row m := by
  cases m with
  | zero => simp at h
  | succ m =>
    by_cases c : Mk row (m + 1)
    · exact c
    · rw [cnt_no c] at h; simp at h
theorem next_of_cnt {row : List Nat} {n m : Nat} (hlt : n < m) (h1 : cnt row (m - 1) = cnt row n) (h2 : cnt row m = cnt row n + 1) : IsNext row n m := ⟨mk_of_cnt (by omega), hlt, fun k hk hnk => by
  rcases Nat.lt_or_ge k m with z | z
  · have h3 := cnt_lt hnk hk
    have h4 := cnt_mono (row := row) (a := k) (b := m - 1) (by omega)
    omega
  · exact z⟩
theorem last_of_cnt {row : List Nat} {n m : Nat} (hlt : m < n) (h1 : cnt row (n - 1) = cnt row m) (h2 : cnt row m = cnt row (m - 1) + 1) : IsLast row n m := ⟨mk_of_cnt h2, hlt, fun k hk hkn => by
  rcases Nat.lt_or_ge m k with z | z
  · have h3 := cnt_lt z hk
    have h4 := cnt_mono (row := row) (a := k) (b := n - 1) (by omega)
    omega
  · exact z⟩
theorem allL_c {row l : List Nat} {b : Nat} (g : Good row) (hl : row.length ≤ 6) (hb : b < 2 ^ 60) (h : l = (List.range (b + 1)).filter fun n => decide (n ≠ 0) && decide (cntF 80 row n ≠ cntF 80 row (n - 1))) : allL row b = l := by
  have e : IsAll row b l := by
    rw [h]
    refine ⟨pair_nodup (List.pairwise_lt_range.sublist List.filter_sublist), fun n => ?_⟩
    rw [List.mem_filter, List.mem_range, Bool.and_eq_true, decide_eq_true_eq, decide_eq_true_eq]
    constructor
    · rintro ⟨h1, h2, h3⟩
      rw [cntF_eq 80 row n 70 g (by omega) (by omega), cntF_eq 80 row (n - 1) 70 g (by omega) (by omega)] at h3
      refine ⟨?_, by omega⟩
      obtain ⟨m, rfl⟩ : ∃ m, n = m + 1 := ⟨n - 1, by omega⟩
      by_cases c : Mk row (m + 1)
      · exact c
      · rw [cnt_no c] at h3; simp at h3
    · rintro ⟨h1, h2⟩
      have h0 := mk_pos g.ge h1
      refine ⟨by omega, by omega, ?_⟩
      rw [cntF_eq 80 row n 70 g (by omega) (by omega), cntF_eq 80 row (n - 1) 70 g (by omega) (by omega)]
      obtain ⟨m, rfl⟩ : ∃ m, n = m + 1 := ⟨n - 1, by omega⟩
      rw [cnt_yes h1]; simp
  refine (e.eq ?_).symm
  rw [h]
  exact List.pairwise_lt_range.sublist List.filter_sublist
/-! ### the row without its last prime -/
theorem last_perm {row : List Nat} {p : Nat} (h : row.getLast? = some p) : row.Perm (p :: row.dropLast) := by
  obtain ⟨ys, rfl⟩ := List.getLast?_eq_some_iff.mp h
  rw [List.dropLast_concat]
  exact List.perm_append_comm
theorem last_ex_row {row : List Nat} (h : row ≠ []) : ∃ p, row.getLast? = some p ∧ p ∈ row := ⟨row.getLast h, List.getLast?_eq_some_getLast h, List.getLast_mem h⟩
theorem last_good {row : List Nat} {p : Nat} (g : Good row) (h : row.getLast? = some p) : Good (p :: row.dropLast) := g.perm (last_perm h).symm
end MA
set_option linter.all false
set_option maxHeartbeats 1000000
namespace MA
/-! ### one prime more, level by level -/
structure Lv (r L : List Nat) (p b : Nat) (F A : List Nat) (j : Nat) : Prop where
  nd : F.Nodup
  na : A.Nodup
  made : ∀ y ∈ F, Mk (p :: r) y ∧ y ≤ b
  hL : ∀ y ∈ L, y ∈ F
  aj : ∀ y ∈ A, y ∈ F ∧ ∃ m ∈ L, y = m * p ^ j
  cl : ∀ x ∈ F, x ∉ A → x * p ≤ b → x * p ∈ F
  low : ∀ y ∈ F, ∃ m ∈ L, ∃ i, i ≤ j ∧ y = m * p ^ i
theorem Lv.start {r L : List Nat} {p b : Nat} (h : IsAll r b L) : Lv r L p b L L 0 := ⟨h.1, h.1, fun y hy => ⟨mk_mono (fun _ z => List.mem_cons_of_mem _ z) ((h.2 y).mp hy).1, ((h.2 y).mp hy).2⟩, fun _ h => h, fun y hy => ⟨hy, y, hy, by simp⟩, fun x hx hn => absurd hx hn, fun y hy => ⟨y, hy, 0, Nat.le_refl _, by simp⟩⟩
def lvUp (p b : Nat) (A : List Nat) : List Nat := (A.filter fun x => decide (x * p ≤ b)).map (· * p)
theorem lvUp_mem {p b y : Nat} {A : List Nat} : y ∈ lvUp p b A ↔ ∃ x ∈ A, x * p ≤ b ∧ y = x * p := by
  unfold lvUp
  rw [List.mem_map]
  constructor
  · rintro ⟨x, hx, rfl⟩
    rw [List.mem_filter, decide_eq_true_eq] at hx
    exact ⟨x, hx.1, hx.2, rfl⟩
  · rintro ⟨x, h1, h2, rfl⟩
    exact ⟨x, by rw [List.mem_filter, decide_eq_true_eq]; exact ⟨h1, h2⟩, rfl⟩
theorem Lv.step {r L F A : List Nat} {p b j : Nat} (v : Lv r L p b F A j) (g : Good (p :: r)) (h0 : IsAll r b L) : Lv r L p b (F ++ lvUp p b A) (lvUp p b A) (j + 1) := by
  have hp := g.head
  have hLm : ∀ m ∈ L, ¬ p ∣ m := fun m hm => g.ndvd ((h0.2 m).mp hm).1
  have up : ∀ y ∈ lvUp p b A, ∃ m ∈ L, y = m * p ^ (j + 1) := fun y hy => by
    obtain ⟨x, hx, _, rfl⟩ := lvUp_mem.mp hy
    obtain ⟨_, m, hm, rfl⟩ := v.aj x hx
    exact ⟨m, hm, by rw [Nat.pow_succ, Nat.mul_assoc]⟩
  have hna : (lvUp p b A).Nodup := List.pairwise_map.mpr ((v.na.sublist List.filter_sublist).imp fun ne e => ne (Nat.eq_of_mul_eq_mul_right (by omega) e))
  refine ⟨?_, hna, fun y hy => ?_, fun y hy => List.mem_append_left _ (v.hL y hy), fun y hy => ⟨List.mem_append_right _ hy, up y hy⟩, fun x hx hn hb => ?_, fun y hy => ?_⟩
  · rw [List.nodup_append]
    refine ⟨v.nd, hna, fun a ha c hc e => ?_⟩
    subst e
    obtain ⟨m, hm, i, hi, e1⟩ := v.low a ha
    obtain ⟨m', hm', e2⟩ := up a hc
    have := (split_eq hp (hLm m hm) (hLm m' hm') (e1.symm.trans e2)).1
    omega
  · rcases List.mem_append.mp hy with z | z
    · exact v.made y z
    · obtain ⟨x, hx, hb, rfl⟩ := lvUp_mem.mp z
      exact ⟨by rw [Nat.mul_comm]; exact .mul List.mem_cons_self (v.made x (v.aj x hx).1).1, hb⟩
  · rcases List.mem_append.mp hx with z | z
    · by_cases ha : x ∈ A
      · exact List.mem_append_right _ (lvUp_mem.mpr ⟨x, ha, hb, rfl⟩)
      · exact List.mem_append_left _ (v.cl x z ha hb)
    · exact absurd z hn
  · rcases List.mem_append.mp hy with z | z
    · obtain ⟨m, hm, i, hi, e⟩ := v.low y z
      exact ⟨m, hm, i, by omega, e⟩
    · obtain ⟨m, hm, e⟩ := up y z
      exact ⟨m, hm, j + 1, Nat.le_refl _, e⟩
theorem Lv.len {r L F A : List Nat} {p b j : Nat} (v : Lv r L p b F A j) : F.length ≤ cnt (p :: r) b := cnt_le v.nd v.made
theorem Lv.fin {r L F : List Nat} {p b j : Nat} (v : Lv r L p b F [] j) (g : Good (p :: r)) (h0 : IsAll r b L) : IsAll (p :: r) b F := grow g h0 v.nd v.made v.hL fun x hx hb => v.cl x hx (by simp) hb
theorem Lv.lt {r L F A : List Nat} {p b j : Nat} (v : Lv r L p b F A j) (g : Good (p :: r)) (h0 : IsAll r b L) (hb : b < 2 ^ 70) (hA : A ≠ []) : j < 70 := by
  obtain ⟨y, t, rfl⟩ := List.exists_cons_of_ne_nil hA
  obtain ⟨h1, m, hm, e⟩ := v.aj y List.mem_cons_self
  have h2 := (v.made y h1).2
  have h3 := mk_pos g.tail.ge ((h0.2 m).mp hm).1
  have h4 : 1 * 2 ^ j ≤ m * p ^ j := Nat.mul_le_mul h3 (Nat.pow_le_pow_left g.head j)
  rcases Nat.lt_or_ge j 70 with z | z
  · exact z
  · have := Nat.pow_le_pow_right (show 0 < 2 by omega) z
    omega
theorem Lv.alen {r L F A : List Nat} {p b j : Nat} (v : Lv r L p b F A j) : A.length ≤ cnt (p :: r) b := Nat.le_trans (len_le v.na fun n hn => (v.aj n hn).1) v.len
/-! ### neighbours -/
open Classical in
noncomputable def nb (row : List Nat) (b : Nat) : List Nat := (allL row b).filter fun x => decide (Mk row (x + 1))
open Classical in
theorem nb_mem {row : List Nat} {b x : Nat} : x ∈ nb row b ↔ (Mk row x ∧ x ≤ b) ∧ Mk row (x + 1) := by
  unfold nb
  rw [List.mem_filter, allL_mem, decide_eq_true_eq]
theorem nb_pair (row : List Nat) (b : Nat) : (nb row b).Pairwise (· < ·) := (allL_pair row b).sublist List.filter_sublist
theorem nb_eq {row l : List Nat} {b : Nat} (hp : l.Pairwise (· < ·)) (h : ∀ x, x ∈ l ↔ (Mk row x ∧ x ≤ b) ∧ Mk row (x + 1)) : l = nb row b := eq_of_pair hp (nb_pair _ _) fun n => (h n).trans nb_mem.symm
theorem nb_len {row : List Nat} {b : Nat} : (nb row b).length ≤ cnt row b := List.length_filter_le _ _
/-- those whose follower in a rising list is one more -/
def adj : List Nat → List Nat
  | x :: y :: r => if y = x + 1 then x :: adj (y :: r) else adj (y :: r)
  | _ => []
theorem adj_sub : ∀ l : List Nat, (adj l).Sublist l
  | [] => .slnil
  | [x] => by rw [adj]; exact List.nil_sublist _; simp
  | x :: y :: r => by
    rw [adj]
    split
    · exact (adj_sub (y :: r)).cons₂ _
    · exact (adj_sub (y :: r)).cons _
theorem adj_mem : ∀ {l : List Nat}, l.Pairwise (· < ·) → ∀ {x : Nat}, x ∈ adj l ↔ x ∈ l ∧ x + 1 ∈ l
  | [], _, x => by simp [adj]
  | [a], _, x => by
    simp only [adj, List.not_mem_nil, List.mem_singleton, false_iff]
    omega
  | a :: b :: r, h, x => by
    have h1 := (List.pairwise_cons.mp h).1
    have h2 := (List.pairwise_cons.mp h).2
    have ih := adj_mem h2 (x := x)
    have hab := h1 b List.mem_cons_self
    have hr : ∀ z ∈ r, b < z := fun z hz => (List.pairwise_cons.mp h2).1 z hz
    rw [adj]
    have e1 : x + 1 ∈ a :: b :: r ↔ x + 1 = a ∨ x + 1 ∈ b :: r := List.mem_cons
    have e2 : x ∈ a :: b :: r ↔ x = a ∨ x ∈ b :: r := List.mem_cons
    have n1 : x ∈ b :: r → x + 1 ≠ a := fun hx e => by have := h1 x hx; omega
    by_cases hc : b = a + 1
    · rw [if_pos hc, List.mem_cons, ih, e1, e2]
      constructor
      · rintro (rfl | ⟨h3, h4⟩)
        · exact ⟨.inl rfl, .inr (by rw [← hc]; exact List.mem_cons_self)⟩
        · exact ⟨.inr h3, .inr h4⟩
      · rintro ⟨rfl | h3, h4⟩
        · exact .inl rfl
        · exact .inr ⟨h3, h4.resolve_left (n1 h3)⟩
    · rw [if_neg hc, ih, e1, e2]
      constructor
      · rintro ⟨h3, h4⟩; exact ⟨.inr h3, .inr h4⟩
      · rintro ⟨rfl | h3, h4⟩
        · rcases h4 with h4 | h4
          · omega
          · rcases List.mem_cons.mp h4 with h5 | h5
            · exact absurd h5.symm hc
            · have := hr _ h5; omega
        · exact ⟨h3, h4.resolve_left (n1 h3)⟩
theorem nb_adj {row : List Nat} {b : Nat} : ((adj (allL row (b + 1))).filter fun x => decide (x ≤ b)) = nb row b := by
  refine nb_eq (((allL_pair row (b + 1)).sublist (adj_sub _)).sublist List.filter_sublist) fun x => ?_
  rw [List.mem_filter, adj_mem (allL_pair _ _), allL_mem, allL_mem, decide_eq_true_eq]
  constructor
  · rintro ⟨⟨⟨h1, h2⟩, h3, h4⟩, h5⟩; exact ⟨⟨h1, h5⟩, h3⟩
  · rintro ⟨⟨h1, h2⟩, h3⟩; exact ⟨⟨⟨h1, by omega⟩, h3, by omega⟩, h2⟩
end MA
set_option Elab.async false
set_option linter.all false
set_option maxRecDepth 100000
set_option maxHeartbeats 4000000
namespace Px
open PySem L2 MA
local macro_rules | `(tactic| bv_omega) => `(tactic| first | assumption | omega | exact cm (by omega) | exact cd (by omega) | exact cp (by omega) | exact trivial)
local macro_rules | `(tactic| array_get_dec) => `(tactic| first
  | assumption
  | exact sq_up
  | exact Own.sqi (by assumption) 0 (by rfl)
  | exact Own.sqi (by assumption) 1 (by rfl)
  | exact Own.sqi (by assumption) 2 (by rfl)
  | exact Own.sqi (by assumption) 3 (by rfl)
  | exact Own.sqi (by assumption) 4 (by rfl)
  | exact Own.sq (by assumption) (by assumption)
  | exact sq_new (by assumption) (by assumption))
local macro_rules | `(tactic| clean_wf) => `(tactic| first
  | with_reducible exact ev_c
  | (with_reducible apply ev_v') <;> rfl
  | (with_reducible apply ev_add) <;> clean_wf
  | (with_reducible apply ev_sub) <;> clean_wf
  | (with_reducible apply ev_mul) <;> clean_wf
  | (with_reducible apply ev_mod) <;> clean_wf
  | (with_reducible apply ev_div) <;> clean_wf
  | (with_reducible apply ev_pow) <;> clean_wf
  | (with_reducible apply ev_neg) <;> clean_wf
  | (with_reducible apply ev_lt) <;> clean_wf
  | (with_reducible apply ev_le) <;> clean_wf
  | (with_reducible apply ev_gt) <;> clean_wf
  | (with_reducible apply ev_ge) <;> clean_wf
  | (with_reducible apply ev_eqi) <;> clean_wf
  | (with_reducible apply ev_nei) <;> clean_wf
  | (with_reducible apply ev_len) <;> clean_wf
  | (with_reducible apply ev_ixL) <;> clean_wf
  | (with_reducible apply ev_min) <;> clean_wf
  | (with_reducible apply ev_max) <;> clean_wf
  | (with_reducible apply ev_abs) <;> clean_wf
  | (with_reducible apply ev_intB) <;> clean_wf
  | (with_reducible apply ea_1) <;> clean_wf
  | (with_reducible apply ea_2) <;> clean_wf
  | (with_reducible apply ea_3) <;> clean_wf
  | with_reducible exact ea_nil
  | (with_reducible apply ea_cons) <;> clean_wf
  | with_reducible exact el_nil
  | (with_reducible apply ep_lt) <;> clean_wf
  | (with_reducible apply ep_le) <;> clean_wf
  | (with_reducible apply ep_gt) <;> clean_wf
  | (with_reducible apply ep_ge) <;> clean_wf
  | (with_reducible apply ep_eqi) <;> clean_wf
  | (with_reducible apply ep_nei) <;> clean_wf
  | (with_reducible apply ep_not) <;> clean_wf
  | ((with_reducible apply ep_and) <;> first | (intro _; clean_wf; done) | clean_wf)
  | ((with_reducible apply ep_or) <;> first | (intro _; clean_wf; done) | clean_wf)
  | (with_reducible apply et_t) <;> clean_wf
  | (with_reducible apply eo_is) <;> clean_wf
  | with_reducible exact eo_no
  | array_get_dec
  | bv_omega
  | rfl
  | skip)
local macro_rules | `(tactic| symm_saturate) => `(tactic| first
  | ((with_reducible apply q_set); (focus (clean_wf; done)))
  | ((with_reducible apply s_set); (focus (clean_wf; done)))
  | ((with_reducible apply q_aug (hx := rfl)); (focus (clean_wf; done)))
  | ((with_reducible apply s_aug (hx := rfl)); (focus (clean_wf; done)))
  | ((with_reducible apply q_augC (hx := rfl)); (focus (clean_wf; done)))
  | ((with_reducible apply s_augC (hx := rfl)); (focus (clean_wf; done))))
local macro_rules | `(tactic| subst_eqs) => `(tactic| repeat' (first
  | with_reducible apply w_c
  | ((with_reducible apply w_v'); (focus rfl))
  | with_reducible apply w_op
  | with_reducible apply w_cb
  | with_reducible apply w_cons
  | with_reducible apply w_nil
  | with_reducible apply r_add
  | with_reducible apply r_sub
  | ((with_reducible apply r_mul); (focus (bv_omega; done)))
  | ((with_reducible apply r_div); (focus (bv_omega; done)))
  | ((with_reducible apply r_mod); (focus (bv_omega; done)))
  | ((with_reducible apply r_pow); (focus (bv_omega; done)))
  | with_reducible apply r_lt
  | with_reducible apply r_le
  | with_reducible apply r_gt
  | with_reducible apply r_ge
  | with_reducible apply r_min
  | with_reducible apply r_max
  | with_reducible apply r_intB
  | ((with_reducible apply r_len); (focus (array_get_dec; done)))
  | with_reducible apply w_callW
  | with_reducible apply q_setW
  | with_reducible apply s_setW
  | with_reducible apply s_retW))

/-- slots: cell k digits -/
abbrev n_law_hand : List Str := ["cell", "k", "digits"]
def t_law_hand (K : PySem.W.Frag) : TS := (sFg (tSeq (tAsg (tC (.int 0)) (gName 2))
  (tSeq (tIfS (tTest (tOp oGe (tVar 0) (tOp oPow (tC (.int 10)) (tC (.int 18))))) (tAsg (tVar 0) (gName 2)) tNext)
  (tRet (tLst (tCons (tVar 2) (tCons (tOp oMod (tOp oMul (tOp oAdd (tOp oAdd (tOp oMod (tVar 0) (tC (.int 2147483563))) (tOp oMul (tC (.int 6271)) (tVar 1))) (tC (.int 3))) (tC (.int 40014))) (tC (.int 2147483563))) tNil)))))))
theorem r_law_hand {K : PySem.W.Frag} {vs : List V} {H : Hp} {Q : VK} {E : XK} (h : sp_law_hand K vs H Q E) : t_law_hand K { nx := fun _ H' => Q .non H', rt := Q } (start n_law_hand vs) H := by
  obtain ⟨nd, c, k, rfl, k0, k1, q⟩ := h
  have key : ∀ D : Int, 0 ≤ D → tRet (tLst (tCons (tVar 2) (tCons (tOp oMod (tOp oMul (tOp oAdd (tOp oAdd (tOp oMod (tVar 0) (tC (.int 2147483563))) (tOp oMul (tC (.int 6271)) (tVar 1))) (tC (.int 3))) (tC (.int 40014))) (tC (.int 2147483563))) tNil))) { nx := fun σ' H' => ∃ H'', Fg H H' H'' ∧ Q .non H'', rt := fun v H' => ∃ H'', Fg H H' H'' ∧ Q v H'', bk := fun σ' H' => ∃ H'', Fg H H' H'' ∧ False, ct := fun σ' H' => ∃ H'', Fg H H' H'' ∧ False } [some (.int c), some (.int k), some (.int D)] H := fun D hD => by
    refine s_retL (el_lst (by clean_wf) (by simp)) fun p hp => ⟨_, fg_newL hp (ex_new hp) upd_same, q p _ _ hp ⟨hD, ?_, ?_⟩⟩
    · exact Int.emod_nonneg _ (by decide)
    · exact Int.lt_trans (Int.emod_lt_of_pos _ (by decide)) (by decide)
  refine fg_body (q_set ev_c (q_whenP (by clean_wf) (fun hc => s_set (ev_v 0) (key c ?_)) fun _ => key 0 (by omega)))
  have : (10 : Int) ^ (18 : Int).toNat ≤ c := hc
  exact Int.le_trans (by decide) this
/-- slots: hand limit got -/
abbrev n_law_draw : List Str := ["hand", "limit", "got"]
def t_law_draw (K : PySem.W.Frag) : TS := (sFg (tSeq (tIfS (tTest (tOp oGt (tOp (rIxL K) (tVar 0) (tC (.int 0))) (tC (.int 0)))) (tSeq (tAsg (tOp oMod (tOp (rIxL K) (tVar 0) (tC (.int 0))) (tVar 1)) (gName 2))
  (tSeq (tAsg (tOp oDiv (tOp (rIxL K) (tVar 0) (tC (.int 0))) (tVar 1)) (gSub (tVar 0) (tC (.int 0)) rSetL))
  (tRet (tVar 2)))) tNext)
  (tSeq (tAsg (tOp oMod (tOp oAdd (tOp oAdd (tOp oMul (tOp (rIxL K) (tVar 0) (tC (.int 1))) (tOp (rIxL K) (tVar 0) (tC (.int 1)))) (tOp oMul (tC (.int 52774)) (tOp (rIxL K) (tVar 0) (tC (.int 1))))) (tC (.int 40692))) (tC (.int 2147483563))) (gSub (tVar 0) (tC (.int 1)) rSetL))
  (tRet (tOp oMod (tOp oDiv (tOp (rIxL K) (tVar 0) (tC (.int 1))) (tC (.int 16))) (tVar 1))))))
theorem r_law_draw {K : PySem.W.Frag} {vs : List V} {H : Hp} {Q : VK} {E : XK} (h : sp_law_draw K vs H Q E) : t_law_draw K { nx := fun _ H' => Q .non H', rt := Q } (start n_law_draw vs) H := by
  obtain ⟨nd, a, d, s, m, rfl, ha, ⟨d0, s0, s1⟩, m0, m1, q⟩ := h
  have sa : SqL K H a (hd d s) := sq_at ha
  have e0 : atI (hd d s) 0 = some (.int d) := rfl
  have e1 : atI (hd d s) 1 = some (.int s) := rfl
  refine fg_body (q_whenP (by clean_wf) (fun hc => ?_) fun hc => ?_)
  · refine q_set (by clean_wf) (q_sub (j := 0) ha (ixn0 (by simp)) (by clean_wf) (ev_v 0) ev_c (s_ret (ev_v 2) ⟨_, fg_mutL ha (fun b u hb hu => by rw [upd_ne hb]; exact hu) upd_same, q _ _ _ (Int.emod_nonneg _ (by omega)) (Int.emod_lt_of_pos _ m0) ⟨?_, s0, s1⟩⟩))
    exact Int.ediv_nonneg d0 (by omega)
  · refine q_sub (j := 1) ha (ixn1 (by simp)) (by clean_wf) (ev_v 0) ev_c ?_
    generalize hs : (s * s + 52774 * s + 40692) % 2147483563 = s'
    have hs0 : 0 ≤ s' ∧ s' < 2147483563 := by
      rw [← hs]
      exact ⟨Int.emod_nonneg _ (by decide), Int.emod_lt_of_pos _ (by decide)⟩
    have e2 : atI (hd d s') 1 = some (.int s') := rfl
    have e3 : SqL K (upd H a (.lst ((hd d s).set 1 (.int s')))) a (hd d s') := sq_at upd_same
    exact s_ret (by clean_wf) ⟨_, fg_mutL ha (fun b u hb hu => by rw [upd_ne hb]; exact hu) upd_same, q _ _ _ (Int.emod_nonneg _ (by omega)) (Int.emod_lt_of_pos _ m0) ⟨d0, hs0.1, by omega⟩⟩
/-! ### the row -/
def sp_law_row (K : PySem.W.Frag) : Sp := fun vs H Q _ => Nod H ∧ ∃ (a : Addr) (d s : Int), vs = [.ref a] ∧ H a = some (.lst (hd d s)) ∧ HdOk d s ∧
  ∀ (p : Addr) (row : List Nat) (d' s' : Int), H p = none → Rw row → row ≠ [] → HdOk d' s' → Q (.ref p) (upd (upd H a (.lst (hd d' s'))) p (.lst (zv row)))
/-- slots: hand primes many way at left found k -/
abbrev n_law_row : List Str := ["hand", "primes", "many", "way", "at", "left", "found", "k"]
def t_law_row (K : PySem.W.Frag) : TS := (sFg (tSeq (tAsg (tLst (tCons (tC (.int 2)) (tCons (tC (.int 3)) (tCons (tC (.int 5)) (tCons (tC (.int 7)) (tCons (tC (.int 11)) (tCons (tC (.int 13)) (tCons (tC (.int 17)) (tCons (tC (.int 19)) (tCons (tC (.int 23)) (tCons (tC (.int 29)) (tCons (tC (.int 31)) (tCons (tC (.int 37)) (tCons (tC (.int 41)) (tCons (tC (.int 43)) (tCons (tC (.int 47)) (tCons (tC (.int 53)) (tCons (tC (.int 59)) (tCons (tC (.int 61)) (tCons (tC (.int 67)) (tCons (tC (.int 71)) (tCons (tC (.int 73)) (tCons (tC (.int 79)) (tCons (tC (.int 83)) (tCons (tC (.int 89)) (tCons (tC (.int 97)) tNil)))))))))))))))))))))))))) (gName 1))
  (tSeq (tAsg (tOp oAdd (tC (.int 1)) (tCall (sp_law_draw K) [] E0 (tCons (tVar 0) (tCons (tC (.int 6)) tNil)))) (gName 2))
  (tSeq (tAsg (tCall (sp_law_draw K) [] E0 (tCons (tVar 0) (tCons (tC (.int 4)) tNil))) (gName 3))
  (tSeq (tIfS (tTest (tOp rEq (tVar 3) (tC (.int 0)))) (tRet (tSl (rSlL K) (tVar 1) tNoPart (tPart (tVar 2)))) tNext)
  (tSeq (tIfS (tTest (tOp rEq (tVar 3) (tC (.int 1)))) (tSeq (tAsg (tCall (sp_law_draw K) [] E0 (tCons (tVar 0) (tCons (tOp oSub (tC (.int 26)) (tVar 2)) tNil))) (gName 4))
  (tRet (tSl (rSlL K) (tVar 1) (tPart (tVar 4)) (tPart (tOp oAdd (tVar 4) (tVar 2)))))) tNext)
  (tSeq (tAsg (tSl (rSlL K) (tVar 1) (tPart (tOp (rIxL K) (tLst (tCons (tC (.int 0)) (tCons (tC (.int 0)) (tCons (tC (.int 0)) (tCons (tC (.int 1)) tNil))))) (tVar 3))) tNoPart) (gName 5))
  (tSeq (tAsg (tLc (iRng1 (tCons (tVar 2) tNil)) (gName 7) tYes (tBM K "list" rPopAt (tVar 5) (tCons (tCall (sp_law_draw K) [] E0 (tCons (tVar 0) (tCons (tCB (cLen K) (tCons (tVar 5) tNil)) tNil))) tNil)) [7]) (gName 6))
  (tRet (tSl (rSlL K) (tCB (rSortedI K) (tCons (tOp rCat (tVar 6) (tOp rRep (tLst (tCons (tC (.int 2)) tNil)) (tCB cInt (tCons (tAndV (tOp rEq (tVar 3) (tC (.int 2))) (tOp (rIn K true) (tC (.int 2)) (tVar 6))) tNil)))) tNil)) tNoPart (tPart (tC (.int 6)))))))))))))
theorem cut_both (l : List Nat) (i j : Nat) (h : i ≤ j) (hj : j ≤ l.length) : cutV (zv l) (some (i : Int)) (some (j : Int)) = zv ((l.drop i).take (j - i)) := by
  rw [cutV_int, HT.sIx_nat, HT.sIx_nat, zl_len, show min i l.length = i by omega, show min j l.length = j by omega]
  simp
theorem rw_of {l : List Nat} (hm : ∀ x ∈ l, x ∈ PR) (hp : l.Pairwise (· ≤ ·)) (hn : l.Nodup) (h6 : l.length ≤ 6) : Rw l := ⟨hm, (hp.and hn).imp fun {x y} z => by have := z.1; have := z.2; omega, h6⟩
theorem r_law_row {K : PySem.W.Frag} {vs : List V} {H : Hp} {Q : VK} {E : XK} (h : sp_law_row K vs H Q E) : t_law_row K { nx := fun _ H' => Q .non H', rt := Q } (start n_law_row vs) H := by
  obtain ⟨nd, a, d, s, rfl, ha, ok, q⟩ := h
  have o : Own (del H a) [(a, hd d s)] H := .enter ha
  have hPR : PR.length = 25 := rfl
  refine fg_body (q_setL (xs := zv PR) (el_lst (by repeat (first | exact ea_nil | refine ea_cons ev_c ?_)) (by decide)) fun p0 hp0 => ?_)
  replace o := o.new (xs := zv PR) hp0
  subst_eqs
  refine o.draw 1 rfl ok (by omega) fun sz d s H1 o1 ok o => ?_
  subst_eqs
  refine o.draw 1 rfl ok (by omega) fun way d s H2 hw ok o => ?_
  obtain ⟨n, en, n1, n2⟩ : ∃ n : Nat, 1 + sz = (n : Int) ∧ 1 ≤ n ∧ n ≤ 6 := ⟨(1 + sz).toNat, by omega, by omega, by omega⟩
  rw [en]
  have fin : ∀ (p : Addr) (row : List Nat) (H3 : Hp) (d s : Int) (i j : Nat) (L : List (Addr × List V)), Own (del H a) L H3 → L[i]? = some (a, hd d s) → L[j]? = some (p, zv row) → i ≠ j → Rw row → row ≠ [] → HdOk d s → ∃ H'', Fg H H3 H'' ∧ Q (.ref p) H'' := fun p row H3 d s i j L o hi hj hij w hne ok => by
    have hpa : p ≠ a := o.ne j i hj hi (Ne.symm hij)
    exact ⟨_, o.exitN ha i j hi hj hpa, q p row d s (by have := o.offI j hj; rw [del_ne hpa] at this; exact this) w hne ok⟩
  refine q_whenP (by clean_wf) (fun hk => ?_) fun hk => ?_
  · refine s_retL (el_sl (ev_v 1) eo_no (eo_is (ev_v 2)) (o.sqi 0 rfl)) fun p hp => ?_
    rw [cut_toN]
    replace o := o.new (xs := zv (PR.take n)) hp
    have hl : (PR.take n).length = n := by rw [List.length_take]; omega
    exact fin p _ _ _ _ 2 0 _ o rfl rfl (by decide) ⟨fun p h => List.mem_of_mem_take h, pr_up.sublist (List.take_sublist _ _), by omega⟩ (fun z => by rw [z] at hl; simp at hl; omega) ok
  refine q_whenP (by clean_wf) (fun hk1 => ?_) fun hk1 => ?_
  · subst_eqs
    refine o.draw 1 rfl ok (by omega) fun at_ d s H3 hat ok o => ?_
    obtain ⟨i, rfl⟩ : ∃ i : Nat, at_ = (i : Int) := ⟨at_.toNat, by omega⟩
    refine s_retL (el_sl (ev_v 1) (eo_is (ev_v 4)) (eo_is (ev_eq (y := .int ((i + n : Nat) : Int)) (ev_add (i := (i : Int)) (j := (n : Int)) (ev_v 4) (ev_v 2)) rfl)) (o.sqi 0 rfl)) fun p hp => ?_
    rw [cut_both PR i (i + n) (by omega) (by omega)]
    replace o := o.new (xs := zv ((PR.drop i).take (i + n - i))) hp
    have hl : ((PR.drop i).take (i + n - i)).length = n := by rw [List.length_take, List.length_drop]; omega
    exact fin p _ _ _ _ 2 0 _ o rfl rfl (by decide) ⟨fun p h => List.mem_of_mem_drop (List.mem_of_mem_take h), pr_up.sublist ((List.take_sublist _ _).trans (List.drop_sublist _ _)), by omega⟩ (fun z => by rw [z] at hl; simp at hl; omega) ok
  · refine q_setW ?_
    refine (ev_v 1) _ ?_
    have hat : ∃ c : Nat, atI [V.int 0, .int 0, .int 0, .int 1] way = some (.int (c : Int)) ∧ c ≤ 1 := by
      rcases (by omega : way = 2 ∨ way = 3) with rfl | rfl
      · exact ⟨0, rfl, by omega⟩
      · exact ⟨1, rfl, by omega⟩
    obtain ⟨c, hat, hc⟩ := hat
    show tOp (rIxL K) _ _ _ H2 _
    refine w_op (w_evL (el_lst (by clean_wf) (by simp)) fun pc hpc => w_v 3 (r_ix sq_up hat ?_))
    replace o := o.tmp (xs := [.int 0, .int 0, .int 0, .int 1]) hpc
    refine ⟨_, rfl, eo_no _ ⟨p0, zv PR, rfl, o.sqi 0 rfl, fun ps hps => ?_⟩⟩
    rw [cut_fromN]
    replace o := o.new (xs := zv (PR.drop c)) hps
    have hcl : 24 ≤ (PR.drop c).length ∧ (PR.drop c).length ≤ 25 := by rw [List.length_drop]; omega
    have hnd : (PR.drop c).Nodup := (pair_nodup pr_up).sublist (List.drop_sublist _ _)
    refine q_setW (w_lcR (ea_1 (ev_v 2)) (by omega) (fun D i H' => ∃ (acc some : List Nat) (d s : Int), Own (del H a) [(D, zv acc), (ps, zv some), (p0, zv PR), (a, hd d s)] H' ∧ HdOk d s ∧ acc.length = i ∧ (acc ++ some).Perm (PR.drop c)) (fun D hD => ⟨[], _, d, s, o.new hD, ok, rfl, .refl _⟩) (fun _ => rfl) (fun D i H' hD hi hv => ?_) (fun D H' hD hv => ?_))
    · obtain ⟨acc, some, d, s, o, ok, hlen, hperm⟩ := hv
      have hsl := hperm.length_eq
      rw [List.length_append] at hsl
      refine w_popR (ev_v 5) (o.sqi 1 rfl) ?_
      subst_eqs
      refine o.draw 3 rfl ok (by rw [zv_len]; omega) fun r d s H3 hr ok o => ?_
      rw [zv_len] at hr
      obtain ⟨k, rfl⟩ : ∃ k : Nat, r = (k : Int) := ⟨r.toNat, by omega⟩
      have hk : k < some.length := by omega
      refine w_nil (r_popN (o.atI 1 rfl) hk (by omega) ?_)
      have o' := o.mut (ys := zv (some.eraseIdx k)) 1 rfl
      refine ⟨zv acc, o'.atI 0 rfl, ?_, acc ++ [some[k]], some.eraseIdx k, d, s, ?_, ok, by simp [hlen], ?_⟩
      · rw [zv_len]; exact szl (by omega)
      · have := o'.mut (ys := zv (acc ++ [some[k]])) 0 rfl
        rw [zv_app] at this ⊢
        exact this
      · rw [List.append_assoc]
        exact .trans ((erase_perm hk).symm.append_left acc) hperm
    · obtain ⟨acc, some, d, s, o, ok, hlen, hperm⟩ := hv
      have hal : acc.length = n := by rw [hlen]; simp
      have hacc : acc.Nodup := (hperm.nodup_iff.mpr hnd).sublist (List.sublist_append_left _ _)
      have hmem : ∀ x ∈ acc, x ∈ PR := fun x hx => List.mem_of_mem_drop (hperm.mem_iff.mp (List.mem_append_left _ hx))
      refine s_retW ?_
      show tCB (rSortedI K) _ _ _ _
      refine w_cb (w_one (w_op (w_v 6 (w_op (w_evL (el_lst (ea_1 ev_c) (by simp)) fun p2 hp2 => ?_)))))
      replace o := o.new (xs := zv [2]) hp2
      refine w_cb (w_one (ev_and (b := !decide (2 ∈ acc)) (ev_eqi (ev_v 3) ev_c) (fun _ => fun Q q => w_op (w_c (w_v 6 ⟨D, zv acc, rfl, .inl (o.sqi 1 rfl), rfl, zv_flat _, by
        have e : inV (V.int 2) (zv acc) = decide (2 ∈ acc) := inV_iff (p := 2)
        rw [e]; exact q⟩))) _ (r_intB ?_)))
      generalize hb2 : (decide (way = 2) && !decide (2 ∈ acc)) = b2
      refine w_rep1 (k := 1) (x := .int ((2 : Nat) : Int)) (o.atI 0 rfl) fun p3 hp3 => ?_
      have ez : (if b2 then [V.int ((2 : Nat) : Int)] else []) = zv (if b2 then [2] else []) := by cases b2 <;> rfl
      rw [ez]
      replace o := o.new (xs := zv (if b2 then [2] else [])) hp3
      have hl1 : (if b2 then [2] else [] : List Nat).length ≤ 1 := by cases b2 <;> simp
      refine ⟨D, p3, _, _, rfl, rfl, o.atI 2 rfl, o.atI 0 rfl, ?_, fun p4 hp4 => ?_⟩
      · rw [zv_len, zv_len]; exact Nat.le_trans (by omega : _ ≤ 1000) (by decide)
      rw [← zv_app]
      replace o := o.new (xs := zv (acc ++ if b2 then [2] else [])) hp4
      refine r_sortN (o.sqi 0 rfl) fun l p5 hl hle hp5 => ?_
      replace o := o.new (xs := zv l) hp5
      refine eo_no _ (eo_is ev_c _ ⟨p5, zv l, rfl, o.sqi 0 rfl, fun p6 hp6 => ?_⟩)
      rw [show (6 : Int) = ((6 : Nat) : Int) from rfl, cut_toN]
      replace o := o.new (xs := zv (l.take 6)) hp6
      have hnd2 : (acc ++ if b2 then [2] else [] : List Nat).Nodup := by
        cases b2 with
        | false => simpa using hacc
        | true =>
          have : ¬ 2 ∈ acc := by
            rw [Bool.and_eq_true] at hb2
            simpa using hb2.2
          simp [List.nodup_append, hacc]
          exact fun x hx e => this (e ▸ hx)
      have hm2 : ∀ x ∈ (acc ++ if b2 then [2] else [] : List Nat), x ∈ PR := fun x hx => by
        rcases List.mem_append.mp hx with z | z
        · exact hmem x z
        · cases b2 with
          | false => simp at z
          | true => rw [List.mem_singleton.mp z]; decide
      have hll : n ≤ l.length := by rw [hl.length_eq, List.length_append]; omega
      have w : Rw (l.take 6) := rw_of (fun x hx => hm2 x (hl.mem_iff.mp (List.mem_of_mem_take hx))) (hle.sublist (List.take_sublist _ _)) ((hl.nodup_iff.mpr hnd2).sublist (List.take_sublist _ _)) (by rw [List.length_take]; omega)
      exact fin p6 _ _ _ _ 8 0 _ o rfl rfl (by decide) w (fun z => by have := congrArg List.length z; rw [List.length_take, List.length_nil] at this; omega) ok
/-! ### the most -/
def sp_law_most (K : PySem.W.Frag) : Sp := fun vs H Q _ => Nod H ∧ ∃ (a : Addr) (row : List Nat), vs = [.ref a] ∧ SqL K H a (zv row) ∧ Q (.int (topN row : Int)) H
/-- slots: row -/
abbrev n_law_most : List Str := ["row"]
def t_law_most (K : PySem.W.Frag) : TS := (sFg (tRet (tFg (tOp (rIxL K) (tLst (tCons (tOp oPow (tC (.int 10)) (tC (.int 9))) (tCons (tOp oPow (tC (.int 10)) (tC (.int 18))) tNil))) (tCB cInt (tCons (tOp oLt (tCB (cLen K) (tCons (tVar 0) tNil)) (tC (.int 5))) tNil))))))
theorem r_law_most {K : PySem.W.Frag} {vs : List V} {H : Hp} {Q : VK} {E : XK} (h : sp_law_most K vs H Q E) : t_law_most K { nx := fun _ H' => Q .non H', rt := Q } (start n_law_most vs) H := by
  obtain ⟨nd, a, row, rfl, ha, q⟩ := h
  refine fg_body (s_ret (ev_pick (v := .int (topN row : Int)) (el_lst (by clean_wf) (by simp)) (fun p hp => by clean_wf) ?_) ⟨H, fg_same ex_refl, q⟩)
  rw [zv_len]
  by_cases h : 4 < row.length
  · rw [decide_eq_false (by omega : ¬ (row.length : Int) < 5), show topN row = 10 ^ 9 from if_pos h]; rfl
  · rw [decide_eq_true (by omega : (row.length : Int) < 5), show topN row = 10 ^ 18 from if_neg h]; rfl
end Px
set_option Elab.async false
set_option linter.all false
set_option maxRecDepth 100000
set_option maxHeartbeats 4000000
namespace Px
open PySem L2 MA
local macro_rules | `(tactic| bv_omega) => `(tactic| first | assumption | omega | exact cm (by omega) | exact cd (by omega) | exact cp (by omega) | exact trivial)
local macro_rules | `(tactic| array_get_dec) => `(tactic| first
  | assumption
  | exact sq_up
  | exact Own.sqi (by assumption) 0 (by rfl)
  | exact Own.sqi (by assumption) 1 (by rfl)
  | exact Own.sqi (by assumption) 2 (by rfl)
  | exact Own.sqi (by assumption) 3 (by rfl)
  | exact Own.sqi (by assumption) 4 (by rfl)
  | exact Own.sq (by assumption) (by assumption)
  | exact sq_new (by assumption) (by assumption))
local macro_rules | `(tactic| clean_wf) => `(tactic| first
  | with_reducible exact ev_c
  | (with_reducible apply ev_v') <;> rfl
  | (with_reducible apply ev_add) <;> clean_wf
  | (with_reducible apply ev_sub) <;> clean_wf
  | (with_reducible apply ev_mul) <;> clean_wf
  | (with_reducible apply ev_mod) <;> clean_wf
  | (with_reducible apply ev_div) <;> clean_wf
  | (with_reducible apply ev_pow) <;> clean_wf
  | (with_reducible apply ev_neg) <;> clean_wf
  | (with_reducible apply ev_lt) <;> clean_wf
  | (with_reducible apply ev_le) <;> clean_wf
  | (with_reducible apply ev_gt) <;> clean_wf
  | (with_reducible apply ev_ge) <;> clean_wf
  | (with_reducible apply ev_eqi) <;> clean_wf
  | (with_reducible apply ev_nei) <;> clean_wf
  | (with_reducible apply ev_len) <;> clean_wf
  | (with_reducible apply ev_ixL) <;> clean_wf
  | (with_reducible apply ev_min) <;> clean_wf
  | (with_reducible apply ev_max) <;> clean_wf
  | (with_reducible apply ev_abs) <;> clean_wf
  | (with_reducible apply ev_intB) <;> clean_wf
  | (with_reducible apply ea_1) <;> clean_wf
  | (with_reducible apply ea_2) <;> clean_wf
  | (with_reducible apply ea_3) <;> clean_wf
  | with_reducible exact ea_nil
  | (with_reducible apply ea_cons) <;> clean_wf
  | with_reducible exact el_nil
  | (with_reducible apply ep_lt) <;> clean_wf
  | (with_reducible apply ep_le) <;> clean_wf
  | (with_reducible apply ep_gt) <;> clean_wf
  | (with_reducible apply ep_ge) <;> clean_wf
  | (with_reducible apply ep_eqi) <;> clean_wf
  | (with_reducible apply ep_nei) <;> clean_wf
  | (with_reducible apply ep_not) <;> clean_wf
  | ((with_reducible apply ep_and) <;> first | (intro _; clean_wf; done) | clean_wf)
  | ((with_reducible apply ep_or) <;> first | (intro _; clean_wf; done) | clean_wf)
  | (with_reducible apply et_t) <;> clean_wf
  | (with_reducible apply eo_is) <;> clean_wf
  | with_reducible exact eo_no
  | array_get_dec
  | bv_omega
  | rfl
  | skip)
local macro_rules | `(tactic| symm_saturate) => `(tactic| first
  | ((with_reducible apply q_set); (focus (clean_wf; done)))
  | ((with_reducible apply s_set); (focus (clean_wf; done)))
  | ((with_reducible apply q_aug (hx := rfl)); (focus (clean_wf; done)))
  | ((with_reducible apply s_aug (hx := rfl)); (focus (clean_wf; done)))
  | ((with_reducible apply q_augC (hx := rfl)); (focus (clean_wf; done)))
  | ((with_reducible apply s_augC (hx := rfl)); (focus (clean_wf; done))))
local macro_rules | `(tactic| subst_eqs) => `(tactic| repeat' (first
  | with_reducible apply w_c
  | ((with_reducible apply w_v'); (focus rfl))
  | with_reducible apply w_op
  | with_reducible apply w_cb
  | with_reducible apply w_cons
  | with_reducible apply w_nil
  | with_reducible apply r_add
  | with_reducible apply r_sub
  | ((with_reducible apply r_mul); (focus (bv_omega; done)))
  | ((with_reducible apply r_div); (focus (bv_omega; done)))
  | ((with_reducible apply r_mod); (focus (bv_omega; done)))
  | ((with_reducible apply r_pow); (focus (bv_omega; done)))
  | with_reducible apply r_lt
  | with_reducible apply r_le
  | with_reducible apply r_gt
  | with_reducible apply r_ge
  | with_reducible apply r_min
  | with_reducible apply r_max
  | with_reducible apply r_intB
  | ((with_reducible apply r_len); (focus (array_get_dec; done)))
  | with_reducible apply w_callW
  | with_reducible apply q_setW
  | with_reducible apply s_setW
  | with_reducible apply s_retW))

open Classical in
def sp_law_is (K : PySem.W.Frag) : Sp := fun vs H Q _ => Nod H ∧ ∃ (a : Addr) (row : List Nat) (n : Nat), vs = [.ref a, .int (n : Int)] ∧ SqL K H a (zv row) ∧ Rw row ∧ 0 < n ∧ Q (.bl (decide (Mk row n))) H
/-- slots: row number left prime -/
abbrev n_law_is : List Str := ["row", "number", "left", "prime"]
def t_law_is (K : PySem.W.Frag) : TS := (sFg (tSeq (tAsg (tVar 1) (gName 2))
  (tSeq (tFor (iList K (tVar 0)) (gName 3) (tWhile (tTest (tOp rEq (tOp oMod (tVar 2) (tVar 3)) (tC (.int 0)))) (tAsg (tOp oDiv (tVar 2) (tVar 3)) (gName 2))))
  (tRet (tOp rEq (tVar 2) (tC (.int 1)))))))
open Classical in
theorem r_law_is {K : PySem.W.Frag} {vs : List V} {H : Hp} {Q : VK} {E : XK} (h : sp_law_is K vs H Q E) : t_law_is K { nx := fun _ H' => Q .non H', rt := Q } (start n_law_is vs) H := by
  obtain ⟨nd, a, row, n, rfl, ha, w, hn, q⟩ := h
  refine fg_body (q_set (ev_v 1) (q_forI (ev_v 0) ha (fun i σ' H' => ∃ (k : Nat) (y : Option V), σ' = [some (.ref a), some (.int n), some (.int k), y] ∧ H' = H ∧ 0 < k ∧ stripAll (row.drop i) k = stripAll row n) ⟨n, none, rfl, rfl, hn, rfl⟩ (fun i σ' H' _ hv => ?_) (fun i x σ' H' hx hv => ?_) (fun σ' H' hv => ?_)))
  · obtain ⟨k, y, _, rfl, _⟩ := hv
    exact ha
  · obtain ⟨k, y, rfl, rfl, hk, he⟩ := hv
    rw [List.getElem?_map] at hx
    cases e : row[i]? with
    | none => rw [e] at hx; cases hx
    | some p =>
      rw [e] at hx
      cases hx
      have hlt := (List.getElem?_eq_some_iff.mp e).1
      have hp := w.ge (List.mem_of_getElem? e)
      have hdr : row.drop i = p :: row.drop (i + 1) := by
        rw [List.drop_eq_getElem_cons hlt]
        congr 1
        exact (List.getElem?_eq_some_iff.mp e).2
      rw [hdr] at he
      refine s_whileP (fun m σ' H'' => ∃ j : Nat, σ' = [some (.ref a), some (.int n), some (.int j), some (.int p)] ∧ H'' = H' ∧ j = m ∧ 0 < j ∧ strip p j = strip p k) k ⟨k, rfl, rfl, rfl, hk, rfl⟩ (fun m σ' H'' hw => ?_)
      obtain ⟨j, rfl, rfl, rfl, hj, hs⟩ := hw
      refine ⟨_, ep_eqi (ev_mod (ev_v 2) (ev_v 3) (by omega)) ev_c, fun hb => ?_, fun hb => ?_⟩
      · have hm : j % p = 0 := by omega
        have hdl : j / p < j := Nat.div_lt_self hj (by omega)
        refine s_set (ev_div (i := (j : Int)) (j := (p : Int)) (ev_v 2) (ev_v 3) (cd (by omega))) ⟨j / p, hdl, j / p, by simp, rfl, rfl, ?_, ?_⟩
        · exact Nat.div_pos (Nat.le_of_dvd hj (Nat.dvd_of_mod_eq_zero hm)) (by omega)
        · rw [← hs, strip_yes (by omega) hj hm]
      · have hm : j % p ≠ 0 := by omega
        rw [strip_no hm] at hs
        refine ⟨j, some (.int p), rfl, rfl, hj, ?_⟩
        rw [hs]
        exact he
  · obtain ⟨k, y, rfl, rfl, hk, he⟩ := hv
    rw [zl_len, List.drop_length] at he
    have he : k = stripAll row n := he
    refine s_ret (ev_eq (ev_eqi (ev_v 2) ev_c) ?_) ⟨_, fg_same ex_refl, q⟩
    have e := stripAll_iff w.good hn
    congr 1
    by_cases hm : Mk row n
    · rw [he, e.mpr hm]; simp [hm]
    · have : ¬ stripAll row n = 1 := fun z => hm (e.mp z)
      have h1 : ¬ (k : Int) = 1 := by omega
      simp [hm, h1]

/-! ### all of them, level by level -/
theorem lv_filter (A : List Nat) (p b : Nat) : (((zl A).filter fun i => decide (i * (p : Int) ≤ (b : Int))).map fun i => i * (p : Int)) = zl (lvUp p b A) := by
  unfold lvUp
  induction A with
  | nil => rfl
  | cons a l ih =>
    simp only [zl, List.map_cons, List.filter_cons] at ih ⊢
    have e : decide ((a : Int) * (p : Int) ≤ (b : Int)) = decide (a * p ≤ b) := decide_eq_decide.mpr (by
      have : (a : Int) * (p : Int) = ((a * p : Nat) : Int) := by simp
      omega)
    rw [e]
    by_cases h : a * p ≤ b
    · simp only [h, decide_true, if_true, List.map_cons, ih]
      simp
    · simp only [h, decide_false, Bool.false_eq_true, if_false, ih]
theorem cnt_of_lv {r L F A : List Nat} {p b j : Nat} (v : Lv r L p b F A j) (hc : cnt (p :: r) b ≤ 9000000) : F.length ≤ 9000000 ∧ A.length ≤ 9000000 := ⟨Nat.le_trans v.len hc, Nat.le_trans v.alen hc⟩
def sp_law_made (K : PySem.W.Frag) : Sp := fun vs H Q _ => Nod H ∧ ∃ (a : Addr) (row : List Nat) (b : Nat), vs = [.ref a, .int (b : Int)] ∧ SqL K H a (zv row) ∧ Rw row ∧ Fits row b ∧ 0 < b ∧
  ∀ (p : Addr), H p = none → Q (.ref p) (upd H p (.lst (zv (allL row b))))
/-- slots: row bound found prime ahead number -/
abbrev n_law_made : List Str := ["row", "bound", "found", "prime", "ahead", "number"]
def t_law_made (K : PySem.W.Frag) : TS := (sFg (tSeq (tAsg (tLst (tCons (tC (.int 1)) tNil)) (gName 2))
  (tSeq (tFor (iList K (tVar 0)) (gName 3) (tSeq (tAsg (tCB (cList K) (tCons (tVar 2) tNil)) (gName 4))
  (tWhile (bFg (tTest (tOp (rNeD K) (tVar 4) (tLst tNil)))) (tSeq (tAsg (tLc (iList K (tVar 4)) (gName 5) (tTest (tOp oLe (tOp oMul (tVar 5) (tVar 3)) (tVar 1))) (tOp oMul (tVar 5) (tVar 3)) [5]) (gName 4))
  (tDrop (tBM K "list" rExtend (tVar 2) (tCons (tVar 4) tNil)))))))
  (tRet (tCB (rSortedI K) (tCons (tVar 2) tNil))))))
/-- [number * prime for number in ahead if number * prime <= bound] -/
theorem el_up {K : PySem.W.Frag} {σ : L2.St} {H : Hp} {pa : Addr} {A : List Nat} {p b : Nat} (hA : SqL K H pa (zv A)) (hlen : A.length ≤ 9000000) (hb : b < 2 ^ 70) (hAb : ∀ x ∈ A, x ≤ b) (hp : p ≤ 97) (h1 : σ[1]? = some (some (.int (b : Int)))) (h3 : σ[3]? = some (some (.int (p : Int)))) (h4 : σ[4]? = some (some (.ref pa))) (hs : σ.length = 6) :
    EvL (tLc (iList K (tVar 4)) (gName 5) (tTest (tOp oLe (tOp oMul (tVar 5) (tVar 3)) (tVar 1))) (tOp oMul (tVar 5) (tVar 3)) [5]) σ H (zv (lvUp p b A)) := by
  obtain ⟨s0, s1, s2, s3, s4, s5, rfl⟩ : ∃ s0 s1 s2 s3 s4 s5, σ = [s0, s1, s2, s3, s4, s5] := by
    match σ, hs with
    | [s0, s1, s2, s3, s4, s5], _ => exact ⟨s0, s1, s2, s3, s4, s5, rfl⟩
  simp only [List.getElem?_cons_succ, List.getElem?_cons_zero, Option.some.injEq] at h1 h3 h4
  subst h1 h3 h4
  rw [zv, ← lv_filter]
  have hbd : ∀ i ∈ zl A, 0 ≤ i ∧ i ≤ (b : Int) := fun i hi => by
    obtain ⟨x, hx, rfl⟩ := List.mem_map.mp hi
    have := hAb x hx
    omega
  exact el_lcI (fun i => decide (i * (p : Int) ≤ (b : Int))) (fun i => i * (p : Int)) (ev_v 4) hA (by rw [zl_len]; omega) (fun _ => rfl) (fun i hi D acc hD => et_t (ev_le (ev_mul (ev_v 5) (ev_v 3) (cm (by have := hbd i hi; omega))) (ev_v 1))) fun i hi _ D acc hD => ev_mul (ev_v 5) (ev_v 3) (cm (by have := hbd i hi; omega))
theorem r_law_made {K : PySem.W.Frag} {vs : List V} {H : Hp} {Q : VK} {E : XK} (h : sp_law_made K vs H Q E) : t_law_made K { nx := fun _ H' => Q .non H', rt := Q } (start n_law_made vs) H := by
  obtain ⟨nd, a, row, b, rfl, sa, w, f, hb0, q⟩ := h
  have g := w.good
  have hfit := w.fit f
  have hb := f.lt
  refine fg_body (q_setL (el_lst (ea_1 ev_c) (by simp)) fun p hp => ?_)
  have o : Own H [(p, zv [1])] (upd H p (.lst [.int 1])) := Own.nil.new hp
  refine q_forI (ns := zl row) (ev_v 0) (o.sq sa) (fun i σ' H' => ∃ (F : List Nat) (y3 y4 : Option V), σ' = [some (.ref a), some (.int b), some (.ref p), y3, y4, none] ∧ Own H [(p, zv F)] H' ∧ IsAll (row.take i) b F) ⟨[1], none, none, rfl, o, ?_⟩ (fun i σ' H' _ hv => ?_) (fun i x σ' H' hx hv => ?_) (fun σ' H' hv => ?_)
  · rw [List.take_zero]; exact all_nil hb0
  · obtain ⟨_, _, _, _, o, _⟩ := hv
    exact o.sq sa
  · obtain ⟨L, y3, y4, rfl, o, hL⟩ := hv
    rw [List.getElem?_map] at hx
    cases e : row[i]? with
    | none => rw [e] at hx; cases hx
    | some pr =>
      rw [e] at hx
      cases hx
      have gd := take_good g e
      have hp2 := w.ge (List.mem_of_getElem? e)
      have hcap : cnt (pr :: row.take i) b ≤ 9000000 := Nat.le_trans (take_cnt e) hfit
      refine q_setL (el_list (ev_v 2) (o.sqi 0 rfl)) fun pa hpa => ?_
      replace o := o.new (xs := zv L) hpa
      refine s_while (fun m σ' H' => ∃ (F A : List Nat) (j : Nat) (pa : Addr), σ' = [some (.ref a), some (.int b), some (.ref p), some (.int (pr : Int)), some (.ref pa), none] ∧ Own H [(pa, zv A), (p, zv F)] H' ∧ Lv (row.take i) L pr b F A j ∧ m = 71 - j ∧ j ≤ 70) 71 ⟨L, L, 0, pa, rfl, o, .start hL, rfl, by omega⟩ (fun m σ' H' hw => ?_)
      obtain ⟨F, A, j, pa, rfl, o, v, rfl, hj⟩ := hw
      have hlens := cnt_of_lv v hcap
      have no := o.nod
      refine ⟨_, et_nonil (ns := zl A) (o.sqi 0 rfl) (ev_v 4), fun hc => ?_, fun hc => ?_⟩
      · have hA : A ≠ [] := fun z => by subst z; simp at hc
        have hj70 := v.lt gd hL hb hA
        refine q_setL (el_up (o.sqi 0 rfl) hlens.2 hb (fun x hx => (v.made x (v.aj x hx).1).2) hp2.2 rfl rfl rfl rfl) fun pn hpn => ?_
        have o2 := o.new (xs := zv (lvUp pr b A)) hpn
        have v2 := v.step gd hL
        have hl2 := cnt_of_lv v2 hcap
        rw [List.length_append] at hl2
        refine s_ext (o2.atI 2 rfl) (o2.atI 0 rfl) ?_ (ev_v 2) (ev_v 4) ⟨71 - (j + 1), by omega, _, _, j + 1, pn, rfl, ?_, v2, rfl, by omega⟩
        · rw [zv_len, zv_len]; exact Nat.le_of_lt (szl (by omega))
        · rw [← zv_app]
          exact (o2.mut (ys := zv (F ++ lvUp pr b A)) 2 rfl).drop2
      · have hA : A = [] := by simpa using hc
        subst hA
        exact ⟨F, _, _, rfl, o.drop1, take_all e (v.fin gd hL)⟩
  · obtain ⟨F, y3, y4, rfl, o, hF⟩ := hv
    rw [zl_len, List.take_length] at hF
    refine s_retW (w_cb (w_one (w_v 2 (r_sortN (o.sqi 0 rfl) fun l ps hl hle hps => ?_))))
    rw [hF.sorted hl hle]
    have o2 := o.new (xs := zv (allL row b)) hps
    exact ⟨_, o2.ret 0 rfl, q ps (o2.offI 0 rfl)⟩
end Px
set_option Elab.async false
set_option linter.all false
set_option maxRecDepth 100000
set_option maxHeartbeats 4000000
namespace Px
open PySem L2 MA
local macro_rules | `(tactic| bv_omega) => `(tactic| first | assumption | omega | exact cm (by omega) | exact cd (by omega) | exact cp (by omega) | exact trivial)
local macro_rules | `(tactic| array_get_dec) => `(tactic| first
  | assumption
  | exact sq_up
  | exact Own.sqi (by assumption) 0 (by rfl)
  | exact Own.sqi (by assumption) 1 (by rfl)
  | exact Own.sqi (by assumption) 2 (by rfl)
  | exact Own.sqi (by assumption) 3 (by rfl)
  | exact Own.sqi (by assumption) 4 (by rfl)
  | exact Own.sq (by assumption) (by assumption)
  | exact sq_new (by assumption) (by assumption))
local macro_rules | `(tactic| clean_wf) => `(tactic| first
  | with_reducible exact ev_c
  | (with_reducible apply ev_v') <;> rfl
  | (with_reducible apply ev_add) <;> clean_wf
  | (with_reducible apply ev_sub) <;> clean_wf
  | (with_reducible apply ev_mul) <;> clean_wf
  | (with_reducible apply ev_mod) <;> clean_wf
  | (with_reducible apply ev_div) <;> clean_wf
  | (with_reducible apply ev_pow) <;> clean_wf
  | (with_reducible apply ev_neg) <;> clean_wf
  | (with_reducible apply ev_lt) <;> clean_wf
  | (with_reducible apply ev_le) <;> clean_wf
  | (with_reducible apply ev_gt) <;> clean_wf
  | (with_reducible apply ev_ge) <;> clean_wf
  | (with_reducible apply ev_eqi) <;> clean_wf
  | (with_reducible apply ev_nei) <;> clean_wf
  | (with_reducible apply ev_len) <;> clean_wf
  | (with_reducible apply ev_ixL) <;> clean_wf
  | (with_reducible apply ev_min) <;> clean_wf
  | (with_reducible apply ev_max) <;> clean_wf
  | (with_reducible apply ev_abs) <;> clean_wf
  | (with_reducible apply ev_intB) <;> clean_wf
  | (with_reducible apply ea_1) <;> clean_wf
  | (with_reducible apply ea_2) <;> clean_wf
  | (with_reducible apply ea_3) <;> clean_wf
  | with_reducible exact ea_nil
  | (with_reducible apply ea_cons) <;> clean_wf
  | with_reducible exact el_nil
  | (with_reducible apply ep_lt) <;> clean_wf
  | (with_reducible apply ep_le) <;> clean_wf
  | (with_reducible apply ep_gt) <;> clean_wf
  | (with_reducible apply ep_ge) <;> clean_wf
  | (with_reducible apply ep_eqi) <;> clean_wf
  | (with_reducible apply ep_nei) <;> clean_wf
  | (with_reducible apply ep_not) <;> clean_wf
  | ((with_reducible apply ep_and) <;> first | (intro _; clean_wf; done) | clean_wf)
  | ((with_reducible apply ep_or) <;> first | (intro _; clean_wf; done) | clean_wf)
  | (with_reducible apply et_t) <;> clean_wf
  | (with_reducible apply eo_is) <;> clean_wf
  | with_reducible exact eo_no
  | array_get_dec
  | bv_omega
  | rfl
  | skip)
local macro_rules | `(tactic| symm_saturate) => `(tactic| first
  | ((with_reducible apply q_set); (focus (clean_wf; done)))
  | ((with_reducible apply s_set); (focus (clean_wf; done)))
  | ((with_reducible apply q_aug (hx := rfl)); (focus (clean_wf; done)))
  | ((with_reducible apply s_aug (hx := rfl)); (focus (clean_wf; done)))
  | ((with_reducible apply q_augC (hx := rfl)); (focus (clean_wf; done)))
  | ((with_reducible apply s_augC (hx := rfl)); (focus (clean_wf; done))))
local macro_rules | `(tactic| subst_eqs) => `(tactic| repeat' (first
  | with_reducible apply w_c
  | ((with_reducible apply w_v'); (focus rfl))
  | with_reducible apply w_op
  | with_reducible apply w_cb
  | with_reducible apply w_cons
  | with_reducible apply w_nil
  | with_reducible apply r_add
  | with_reducible apply r_sub
  | ((with_reducible apply r_mul); (focus (bv_omega; done)))
  | ((with_reducible apply r_div); (focus (bv_omega; done)))
  | ((with_reducible apply r_mod); (focus (bv_omega; done)))
  | ((with_reducible apply r_pow); (focus (bv_omega; done)))
  | with_reducible apply r_lt
  | with_reducible apply r_le
  | with_reducible apply r_gt
  | with_reducible apply r_ge
  | with_reducible apply r_min
  | with_reducible apply r_max
  | with_reducible apply r_intB
  | ((with_reducible apply r_len); (focus (array_get_dec; done)))
  | with_reducible apply w_callW
  | with_reducible apply q_setW
  | with_reducible apply s_setW
  | with_reducible apply s_retW))

/-! ### a bound -/
def sp_law_bound (K : PySem.W.Frag) : Sp := fun vs H Q _ => Nod H ∧ ∃ (a r : Addr) (d s : Int) (row : List Nat) (few most : Nat), vs = [.ref a, .ref r, .int (few : Int), .int (most : Int)] ∧ H a = some (.lst (hd d s)) ∧ HdOk d s ∧ SqL K H r (zv row) ∧ r ≠ a ∧ Rw row ∧ row ≠ [] ∧ few ≤ most ∧ 0 < most ∧ most ≤ 10 ^ 18 ∧
  ∀ (n : Nat) (d' s' : Int), n ≤ most → HdOk d' s' → Q (.int (n : Int)) (upd H a (.lst (hd d' s')))
/-- slots: hand row few most way far found turn prime -/
abbrev n_law_bound : List Str := ["hand", "row", "few", "most", "way", "far", "found", "turn", "prime"]
def t_law_bound (K : PySem.W.Frag) : TS := (sFg (tSeq (tAsg (tCall (sp_law_draw K) [] E0 (tCons (tVar 0) (tCons (tC (.int 6)) tNil))) (gName 4))
  (tSeq (tIfS (tTest (tOp oLt (tVar 4) (tC (.int 2)))) (tRet (tCall (sp_law_draw K) [] E0 (tCons (tVar 0) (tCons (tOp oAdd (tVar 2) (tC (.int 1))) tNil)))) tNext)
  (tSeq (tIfS (tTest (tOp rEq (tVar 4) (tC (.int 2)))) (tRet (tVar 3)) tNext)
  (tSeq (tAsg (tOp oAdd (tOp oAdd (tOp oMul (tCall (sp_law_draw K) [] E0 (tCons (tVar 0) (tCons (tOp oPow (tC (.int 10)) (tC (.int 6))) tNil))) (tOp oPow (tC (.int 10)) (tC (.int 12)))) (tOp oMul (tCall (sp_law_draw K) [] E0 (tCons (tVar 0) (tCons (tOp oPow (tC (.int 10)) (tC (.int 6))) tNil))) (tOp oPow (tC (.int 10)) (tC (.int 6))))) (tCall (sp_law_draw K) [] E0 (tCons (tVar 0) (tCons (tOp oPow (tC (.int 10)) (tC (.int 6))) tNil)))) (gName 5))
  (tSeq (tAsg (tOp oMod (tVar 5) (tOp oAdd (tVar 3) (tC (.int 1)))) (gName 5))
  (tSeq (tIfS (tTest (tOp rEq (tVar 4) (tC (.int 3)))) (tRet (tVar 5)) tNext)
  (tSeq (tAsg (tC (.int 1)) (gName 6))
  (tSeq (tFor (iRng1 (tCons (tCall (sp_law_draw K) [] E0 (tCons (tVar 0) (tCons (tC (.int 60)) tNil))) tNil)) (gName 7) (tSeq (tAsg (tOp (rIxL K) (tVar 1) (tCall (sp_law_draw K) [] E0 (tCons (tVar 0) (tCons (tCB (cLen K) (tCons (tVar 1) tNil)) tNil)))) (gName 8))
  (tIfS (tTest (tOp oLe (tOp oMul (tVar 6) (tVar 8)) (tVar 3))) (tAsg (tOp oMul (tVar 6) (tVar 8)) (gName 6)) tNext)))
  (tRet (tCB cMax (tCons (tC (.int 0)) (tCons (tCB cMin (tCons (tVar 3) (tCons (tOp oAdd (tVar 6) (tOp (rIxL K) (tLst (tCons (tC (.int 0)) (tCons (tOp oSub (tCall (sp_law_draw K) [] E0 (tCons (tVar 0) (tCons (tC (.int 5)) tNil))) (tC (.int 2))) tNil))) (tOp oSub (tVar 4) (tC (.int 4))))) tNil))) tNil)))))))))))))
theorem p6 : (10 : Int) ^ (6 : Int).toNat = 1000000 := rfl
theorem p12 : (10 : Int) ^ (12 : Int).toNat = 1000000000000 := rfl
theorem r_law_bound {K : PySem.W.Frag} {vs : List V} {H : Hp} {Q : VK} {E : XK} (h : sp_law_bound K vs H Q E) : t_law_bound K { nx := fun _ H' => Q .non H', rt := Q } (start n_law_bound vs) H := by
  obtain ⟨nd, a, r, d, s, row, few, most, rfl, ha, ok, hr, hra, w, hne, hfm, hm0, hm1, q⟩ := h
  have o : Own (del H a) [(a, hd d s)] H := .enter ha
  have hr' : SqL K (del H a) r (zv row) := del_sq hra hr
  have hlen : 0 < row.length := List.length_pos_iff.mpr hne
  have hl6 := w.le
  have fin : ∀ (n : Nat) (d s : Int) (H1 : Hp), n ≤ most → HdOk d s → Own (del H a) [(a, hd d s)] H1 → ∃ H'', Fg H H1 H'' ∧ Q (.int (n : Int)) H'' := fun n d s H1 hn ok o => ⟨_, o.exit ha 0 rfl, q n d s hn ok⟩
  refine fg_body ?_
  subst_eqs
  refine o.draw 0 rfl ok (by omega) fun way d s H1 hway ok o => ?_
  refine q_whenP (by clean_wf) (fun _ => ?_) fun hw2 => ?_
  · subst_eqs
    refine o.draw 0 rfl ok (by omega) fun n d s H1 hn ok o => ?_
    obtain ⟨n, rfl⟩ : ∃ t' : Nat, n = (t' : Int) := ⟨n.toNat, by omega⟩
    exact fin n d s H1 (by omega) ok o
  refine q_whenP (by clean_wf) (fun _ => s_ret (ev_v 3) (fin most d s H1 (by omega) ok o)) fun hw3 => ?_
  refine q_setW (w_op (w_op (w_op (w_callW (w_cons (w_v 0 (w_one (w_ev (ev_pow ev_c ev_c (cp (by omega))) ?_))))))))
  rw [p6]
  refine o.draw 0 rfl ok (by omega) fun x1 d s H1 h1 ok o => ?_
  refine w_ev (ev_pow ev_c ev_c (cp (by omega))) ?_
  rw [p12]
  refine r_mul (cm (by omega)) (w_op (w_callW (w_cons (w_v 0 (w_one (w_ev (ev_pow ev_c ev_c (cp (by omega))) ?_))))))
  rw [p6]
  refine o.draw 0 rfl ok (by omega) fun x2 d s H1 h2 ok o => ?_
  refine w_ev (ev_pow ev_c ev_c (cp (by omega))) ?_
  rw [p6]
  refine r_mul (cm (by omega)) (r_add (w_callW (w_cons (w_v 0 (w_one (w_ev (ev_pow ev_c ev_c (cp (by omega))) ?_))))))
  rw [p6]
  refine o.draw 0 rfl ok (by omega) fun x3 d s H1 h3 ok o => r_add ?_
  refine q_set (ev_mod (ev_v 5) (ev_add (ev_v 3) ev_c) (by omega)) ?_
  generalize hf : (x1 * 1000000000000 + x2 * 1000000 + x3) % ((most : Int) + 1) = far
  have hf0 : 0 ≤ far ∧ far < (most : Int) + 1 := by
    rw [← hf]
    exact ⟨Int.emod_nonneg _ (by omega), Int.emod_lt_of_pos _ (by omega)⟩
  obtain ⟨far, rfl⟩ : ∃ t' : Nat, far = (t' : Int) := ⟨far.toNat, by omega⟩
  refine q_whenP (by clean_wf) (fun _ => s_ret (ev_v 5) (fin far d s H1 (by omega) ok o)) fun hw4 => ?_
  refine q_set ev_c (q_seq (w_forR1 (w_one (w_callW (w_cons (w_v 0 (w_one (w_c ?_))))))))
  refine o.draw 0 rfl ok (by omega) fun k d s H2 hk ok o => ⟨k, rfl, by omega, by omega, ?_⟩
  refine lp_range (fun i σ' H' => ∃ (f : Nat) (d s : Int) (y7 y8 : Option V), σ' = [some (.ref a), some (.ref r), some (.int few), some (.int most), some (.int way), some (.int far), some (.int f), y7, y8] ∧ Own (del H a) [(a, hd d s)] H' ∧ HdOk d s ∧ f ≤ most) ⟨1, d, s, none, none, rfl, o, ok, by omega⟩ (fun i σ' H' hi hv => ?_) (fun σ' H' hv => ?_)
  · obtain ⟨f, d, s, y7, y8, rfl, o, ok, hft⟩ := hv
    have hsq := o.sq hr'
    refine q_setW (w_op (w_v 1 (w_callW (w_cons (w_v 0 (w_one (w_ev (ev_len (ev_v 1) hsq) ?_)))))))
    rw [zv_len]
    refine o.draw 0 rfl ok (by omega) fun j d s H2 hj ok o => ?_
    obtain ⟨j, rfl⟩ : ∃ k : Nat, j = (k : Int) := ⟨j.toNat, by omega⟩
    have hjl : j < row.length := by omega
    refine r_ix (o.sq hr') (zv_at hjl) ?_
    have hp := w.ge (List.getElem_mem hjl)
    generalize row[j] = p at hp
    have hfp : (f : Int) * (p : Int) = ((f * p : Nat) : Int) := by simp
    refine s_whenP (ep_le (ev_mul (ev_v 6) (ev_v 8) (cm (by omega))) (ev_v 3)) (fun hc => ?_) fun _ => ⟨f, d, s, _, _, rfl, o, ok, hft⟩
    rw [hfp] at hc
    exact s_set (ev_eq (ev_mul (ev_v 6) (ev_v 8) (cm (by omega))) (congrArg V.int hfp)) ⟨f * p, d, s, _, _, rfl, o, ok, by omega⟩
  · obtain ⟨f, d, s, y7, y8, rfl, o, ok, hft⟩ := hv
    refine s_retW (w_cb (w_cons (w_c (w_one (w_cb (w_cons (w_v 3 (w_one (w_op (w_v 6 (w_op (w_lst (w_cons (w_c (w_one (w_op (w_callW (w_cons (w_v 0 (w_one (w_c ?_)))))))))))))))))))))
    refine o.draw 0 rfl ok (by omega) fun g d s H2 hg ok o => w_c (r_sub ⟨(by show 2 ≤ sizeLine; decide), fun pl hpl => ?_⟩)
    have o2 := o.tmp (xs := [.int 0, .int (g - 2)]) hpl
    refine w_ev (ev_sub (ev_v 4) ev_c) ?_
    obtain ⟨z, hz⟩ : ∃ z : Int, atI [V.int 0, .int (g - 2)] (way - 4) = some (.int z) := by
      rcases (by omega : way = 4 ∨ way = 5) with rfl | rfl
      · exact ⟨0, rfl⟩
      · exact ⟨g - 2, rfl⟩
    refine r_ix sq_up hz (r_add (r_min (r_max ?_)))
    obtain ⟨m, e, hm⟩ : ∃ m : Nat, (if (if (f : Int) + z < (most : Int) then (f : Int) + z else (most : Int)) > 0 then (if (f : Int) + z < (most : Int) then (f : Int) + z else (most : Int)) else 0) = (m : Int) ∧ m ≤ most := by
      refine ⟨(if (if (f : Int) + z < (most : Int) then (f : Int) + z else (most : Int)) > 0 then (if (f : Int) + z < (most : Int) then (f : Int) + z else (most : Int)) else 0).toNat, ?_, ?_⟩ <;> split <;> split <;> omega
    rw [e]
    exact fin m d s _ hm ok o2
theorem Own.bound {K : PySem.W.Frag} {B H : Hp} {L : List (Addr × List V)} {p r : Addr} {d s : Int} {row : List Nat} {few most : Nat} {Q : VK} {E : XK} (o : Own B L H) (i : Nat) (h : L[i]? = some (p, hd d s)) (ok : HdOk d s) (hr : SqL K H r (zv row)) (hrp : r ≠ p) (w : Rw row) (hne : row ≠ []) (t : few ≤ most ∧ 0 < most ∧ most ≤ 10 ^ 18)
    (k : ∀ (n : Nat) (d' s' : Int) (H2 : Hp), n ≤ most → HdOk d' s' → Own B (L.set i (p, hd d' s')) H2 → Q (.int (n : Int)) H2) : sp_law_bound K ([.ref p, .ref r, .int (few : Int), .int (most : Int)] ++ []) H Q E :=
  ⟨o.nod, p, r, d, s, row, few, most, rfl, o.atI i h, ok, hr, hrp, w, hne, t.1, t.2.1, t.2.2, fun n d' s' h1 ok' => k n d' s' _ h1 ok' (o.mut i h)⟩
theorem Own.rowB {K : PySem.W.Frag} {B H : Hp} {L : List (Addr × List V)} {p : Addr} {d s : Int} {Q : VK} {E : XK} (o : Own B L H) (i : Nat) (h : L[i]? = some (p, hd d s)) (ok : HdOk d s)
    (k : ∀ (r : Addr) (row : List Nat) (d' s' : Int) (H2 : Hp), Rw row → row ≠ [] → HdOk d' s' → Own B ((r, zv row) :: L.set i (p, hd d' s')) H2 → Q (.ref r) H2) : sp_law_row K ([.ref p] ++ []) H Q E :=
  ⟨o.nod, p, d, s, rfl, o.atI i h, ok, fun r row d' s' hr w hne ok' => k r row d' s' _ w hne ok' ((o.mut i h).new (by rw [upd_ne (Ne.symm (ne_of_none (o.atI i h) hr))]; exact hr))⟩
end Px
set_option Elab.async false
set_option linter.all false
set_option maxRecDepth 100000
set_option maxHeartbeats 4000000
namespace Px
open PySem L2 MA
local macro_rules | `(tactic| bv_omega) => `(tactic| first | assumption | omega | exact cm (by omega) | exact cd (by omega) | exact cp (by omega) | exact trivial)
local macro_rules | `(tactic| array_get_dec) => `(tactic| first
  | assumption
  | exact sq_up
  | exact Own.sqi (by assumption) 0 (by rfl)
  | exact Own.sqi (by assumption) 1 (by rfl)
  | exact Own.sqi (by assumption) 2 (by rfl)
  | exact Own.sqi (by assumption) 3 (by rfl)
  | exact Own.sqi (by assumption) 4 (by rfl)
  | exact Own.sq (by assumption) (by assumption)
  | exact sq_new (by assumption) (by assumption))
local macro_rules | `(tactic| clean_wf) => `(tactic| first
  | with_reducible exact ev_c
  | (with_reducible apply ev_v') <;> rfl
  | (with_reducible apply ev_add) <;> clean_wf
  | (with_reducible apply ev_sub) <;> clean_wf
  | (with_reducible apply ev_mul) <;> clean_wf
  | (with_reducible apply ev_mod) <;> clean_wf
  | (with_reducible apply ev_div) <;> clean_wf
  | (with_reducible apply ev_pow) <;> clean_wf
  | (with_reducible apply ev_neg) <;> clean_wf
  | (with_reducible apply ev_lt) <;> clean_wf
  | (with_reducible apply ev_le) <;> clean_wf
  | (with_reducible apply ev_gt) <;> clean_wf
  | (with_reducible apply ev_ge) <;> clean_wf
  | (with_reducible apply ev_eqi) <;> clean_wf
  | (with_reducible apply ev_nei) <;> clean_wf
  | (with_reducible apply ev_len) <;> clean_wf
  | (with_reducible apply ev_ixL) <;> clean_wf
  | (with_reducible apply ev_min) <;> clean_wf
  | (with_reducible apply ev_max) <;> clean_wf
  | (with_reducible apply ev_abs) <;> clean_wf
  | (with_reducible apply ev_intB) <;> clean_wf
  | (with_reducible apply ea_1) <;> clean_wf
  | (with_reducible apply ea_2) <;> clean_wf
  | (with_reducible apply ea_3) <;> clean_wf
  | with_reducible exact ea_nil
  | (with_reducible apply ea_cons) <;> clean_wf
  | with_reducible exact el_nil
  | (with_reducible apply ep_lt) <;> clean_wf
  | (with_reducible apply ep_le) <;> clean_wf
  | (with_reducible apply ep_gt) <;> clean_wf
  | (with_reducible apply ep_ge) <;> clean_wf
  | (with_reducible apply ep_eqi) <;> clean_wf
  | (with_reducible apply ep_nei) <;> clean_wf
  | (with_reducible apply ep_not) <;> clean_wf
  | ((with_reducible apply ep_and) <;> first | (intro _; clean_wf; done) | clean_wf)
  | ((with_reducible apply ep_or) <;> first | (intro _; clean_wf; done) | clean_wf)
  | (with_reducible apply et_t) <;> clean_wf
  | (with_reducible apply eo_is) <;> clean_wf
  | with_reducible exact eo_no
  | array_get_dec
  | bv_omega
  | rfl
  | skip)
local macro_rules | `(tactic| symm_saturate) => `(tactic| first
  | ((with_reducible apply q_set); (focus (clean_wf; done)))
  | ((with_reducible apply s_set); (focus (clean_wf; done)))
  | ((with_reducible apply q_aug (hx := rfl)); (focus (clean_wf; done)))
  | ((with_reducible apply s_aug (hx := rfl)); (focus (clean_wf; done)))
  | ((with_reducible apply q_augC (hx := rfl)); (focus (clean_wf; done)))
  | ((with_reducible apply s_augC (hx := rfl)); (focus (clean_wf; done))))
local macro_rules | `(tactic| subst_eqs) => `(tactic| repeat' (first
  | with_reducible apply w_c
  | ((with_reducible apply w_v'); (focus rfl))
  | with_reducible apply w_op
  | with_reducible apply w_cb
  | with_reducible apply w_cons
  | with_reducible apply w_nil
  | with_reducible apply r_add
  | with_reducible apply r_sub
  | ((with_reducible apply r_mul); (focus (bv_omega; done)))
  | ((with_reducible apply r_div); (focus (bv_omega; done)))
  | ((with_reducible apply r_mod); (focus (bv_omega; done)))
  | ((with_reducible apply r_pow); (focus (bv_omega; done)))
  | with_reducible apply r_lt
  | with_reducible apply r_le
  | with_reducible apply r_gt
  | with_reducible apply r_ge
  | with_reducible apply r_min
  | with_reducible apply r_max
  | with_reducible apply r_intB
  | ((with_reducible apply r_len); (focus (array_get_dec; done)))
  | with_reducible apply w_callW
  | with_reducible apply q_setW
  | with_reducible apply s_setW
  | with_reducible apply s_retW))

/-! ### the nearest -/
noncomputable def near (row : List Nat) (n : Nat) : Nat := if n - lst row (n + 1) ≤ nxt row (n - 1) - n then lst row (n + 1) else nxt row (n - 1)
theorem near_facts {row : List Nat} (g : Good row) (hne : row ≠ []) {n : Nat} (hn : 0 < n) : IsNext row (n - 1) (nxt row (n - 1)) ∧ IsLast row (n + 1) (lst row (n + 1)) ∧ n ≤ nxt row (n - 1) ∧ lst row (n + 1) ≤ n ∧ 0 < lst row (n + 1) := by
  have h1 := nxt_is g hne (n - 1)
  have h2 := lst_is (row := row) (n := n + 1) (by omega)
  have h3 := h1.gt
  have h4 := h2.lt
  exact ⟨h1, h2, by omega, by omega, mk_pos g.ge h2.made⟩
def sp_nearest (K : PySem.W.Frag) : Sp := fun vs H Q _ => Nod H ∧ ∃ (a : Addr) (row : List Nat) (n : Nat), vs = [.ref a, .int (n : Int)] ∧ RowAt H a row ∧ 0 < n ∧ n ≤ topN row ∧ Q (.int (near row n : Int)) H
/-- slots: row number above below -/
abbrev n_nearest : List Str := ["row", "number", "above", "below"]
def t_nearest (K : PySem.W.Frag) : TS := (sFg (tSeq (tAsg (tCall (sp_next_one K) [] E0 (tCons (tVar 0) (tCons (tOp oSub (tVar 1) (tC (.int 1))) tNil))) (gName 2))
  (tSeq (tAsg (tCall (sp_last_one K) [] E0 (tCons (tVar 0) (tCons (tOp oAdd (tVar 1) (tC (.int 1))) tNil))) (gName 3))
  (tSeq (tIfS (tTest (tOp oLe (tOp oSub (tVar 1) (tVar 3)) (tOp oSub (tVar 2) (tVar 1)))) (tRet (tVar 3)) tNext)
  (tRet (tVar 2))))))
theorem r_nearest {K : PySem.W.Frag} {vs : List V} {H : Hp} {Q : VK} {E : XK} (h : sp_nearest K vs H Q E) : t_nearest K { nx := fun _ H' => Q .non H', rt := Q } (start n_nearest vs) H := by
  obtain ⟨nd, a, row, n, rfl, r, hn, ht, q⟩ := h
  obtain ⟨h1, h2, h3, h4, h5⟩ := near_facts r.g r.ne hn
  have f1 := topN_next r.w r.ne (show n - 1 ≤ topN row by omega)
  have f2 : Fits (row.drop 1) (n + 1 - 1) := (topN_next r.w r.ne ht).1.mono (by omega)
  have el : lastV row (n + 1) = .int (lst row (n + 1) : Int) := if_neg (by omega)
  unfold near at q
  refine fg_body (q_set (e_next (n := n - 1) r f1 (ev_v 0) (ev_eq (ev_sub (ev_v 1) ev_c) (by congr 1; omega))) (q_set (v := .int (lst row (n + 1) : Int)) (ev_eq (e_last (n := n + 1) r f2 (ev_v 0) (ev_eq (ev_add (i := (n : Int)) (ev_v 1) ev_c) rfl)) el) (q_whenP (by clean_wf) (fun hc => ?_) fun hc => ?_)))
  · rw [if_pos (by omega)] at q
    exact s_ret (ev_v 3) ⟨H, fg_same ex_refl, q⟩
  · rw [if_neg (by omega)] at q
    exact s_ret (ev_v 2) ⟨H, fg_same ex_refl, q⟩
theorem e_near {K : PySem.W.Frag} {σ : L2.St} {H : Hp} {ta tb : TE} {a : Addr} {row : List Nat} {n : Nat} [nd : Nod H] (r : RowAt H a row) (hn : 0 < n ∧ n ≤ topN row) (ha : Ev ta σ H (.ref a)) (hb : Ev tb σ H (.int (n : Int))) : Ev (tCall (sp_nearest K) [] E0 (tCons ta (tCons tb tNil))) σ H (.int (near row n : Int)) :=
  ev_call (ea_2 ha hb) fun Q q => ⟨nd, a, row, n, rfl, r, hn.1, hn.2, q⟩
theorem near_c {row : List Nat} {n x y m : Nat} (h1 : nxt row (n - 1) = x) (h2 : lst row (n + 1) = y) (h : (if n - y ≤ x - n then y else x) = m) : near row n = m := by unfold near; rw [h1, h2]; exact h
end Px
set_option Elab.async false
set_option linter.all false
set_option maxRecDepth 100000
set_option maxHeartbeats 4000000
namespace Px
open PySem L2 MA
local macro_rules | `(tactic| bv_omega) => `(tactic| first | assumption | omega | exact cm (by omega) | exact cd (by omega) | exact cp (by omega) | exact trivial)
local macro_rules | `(tactic| array_get_dec) => `(tactic| first
  | assumption
  | exact sq_up
  | exact Own.sqi (by assumption) 0 (by rfl)
  | exact Own.sqi (by assumption) 1 (by rfl)
  | exact Own.sqi (by assumption) 2 (by rfl)
  | exact Own.sqi (by assumption) 3 (by rfl)
  | exact Own.sqi (by assumption) 4 (by rfl)
  | exact Own.sq (by assumption) (by assumption)
  | exact sq_new (by assumption) (by assumption))
local macro_rules | `(tactic| clean_wf) => `(tactic| first
  | with_reducible exact ev_c
  | (with_reducible apply ev_v') <;> rfl
  | (with_reducible apply ev_add) <;> clean_wf
  | (with_reducible apply ev_sub) <;> clean_wf
  | (with_reducible apply ev_mul) <;> clean_wf
  | (with_reducible apply ev_mod) <;> clean_wf
  | (with_reducible apply ev_div) <;> clean_wf
  | (with_reducible apply ev_pow) <;> clean_wf
  | (with_reducible apply ev_neg) <;> clean_wf
  | (with_reducible apply ev_lt) <;> clean_wf
  | (with_reducible apply ev_le) <;> clean_wf
  | (with_reducible apply ev_gt) <;> clean_wf
  | (with_reducible apply ev_ge) <;> clean_wf
  | (with_reducible apply ev_eqi) <;> clean_wf
  | (with_reducible apply ev_nei) <;> clean_wf
  | (with_reducible apply ev_len) <;> clean_wf
  | (with_reducible apply ev_ixL) <;> clean_wf
  | (with_reducible apply ev_min) <;> clean_wf
  | (with_reducible apply ev_max) <;> clean_wf
  | (with_reducible apply ev_abs) <;> clean_wf
  | (with_reducible apply ev_intB) <;> clean_wf
  | (with_reducible apply ea_1) <;> clean_wf
  | (with_reducible apply ea_2) <;> clean_wf
  | (with_reducible apply ea_3) <;> clean_wf
  | with_reducible exact ea_nil
  | (with_reducible apply ea_cons) <;> clean_wf
  | with_reducible exact el_nil
  | (with_reducible apply ep_lt) <;> clean_wf
  | (with_reducible apply ep_le) <;> clean_wf
  | (with_reducible apply ep_gt) <;> clean_wf
  | (with_reducible apply ep_ge) <;> clean_wf
  | (with_reducible apply ep_eqi) <;> clean_wf
  | (with_reducible apply ep_nei) <;> clean_wf
  | (with_reducible apply ep_not) <;> clean_wf
  | ((with_reducible apply ep_and) <;> first | (intro _; clean_wf; done) | clean_wf)
  | ((with_reducible apply ep_or) <;> first | (intro _; clean_wf; done) | clean_wf)
  | (with_reducible apply et_t) <;> clean_wf
  | (with_reducible apply eo_is) <;> clean_wf
  | with_reducible exact eo_no
  | array_get_dec
  | bv_omega
  | rfl
  | skip)
local macro_rules | `(tactic| symm_saturate) => `(tactic| first
  | ((with_reducible apply q_set); (focus (clean_wf; done)))
  | ((with_reducible apply s_set); (focus (clean_wf; done)))
  | ((with_reducible apply q_aug (hx := rfl)); (focus (clean_wf; done)))
  | ((with_reducible apply s_aug (hx := rfl)); (focus (clean_wf; done)))
  | ((with_reducible apply q_augC (hx := rfl)); (focus (clean_wf; done)))
  | ((with_reducible apply s_augC (hx := rfl)); (focus (clean_wf; done))))
local macro_rules | `(tactic| subst_eqs) => `(tactic| repeat' (first
  | with_reducible apply w_c
  | ((with_reducible apply w_v'); (focus rfl))
  | with_reducible apply w_op
  | with_reducible apply w_cb
  | with_reducible apply w_cons
  | with_reducible apply w_nil
  | with_reducible apply r_add
  | with_reducible apply r_sub
  | ((with_reducible apply r_mul); (focus (bv_omega; done)))
  | ((with_reducible apply r_div); (focus (bv_omega; done)))
  | ((with_reducible apply r_mod); (focus (bv_omega; done)))
  | ((with_reducible apply r_pow); (focus (bv_omega; done)))
  | with_reducible apply r_lt
  | with_reducible apply r_le
  | with_reducible apply r_gt
  | with_reducible apply r_ge
  | with_reducible apply r_min
  | with_reducible apply r_max
  | with_reducible apply r_intB
  | ((with_reducible apply r_len); (focus (array_get_dec; done)))
  | with_reducible apply w_callW
  | with_reducible apply q_setW
  | with_reducible apply s_setW
  | with_reducible apply s_retW))

/-! ### how many there are to a number times the least prime twice -/
theorem cnt_boxes28 : ∀ (row ks : List Nat) (b : Nat), Good row → row.length ≤ ks.length → (∀ j p k : Nat, row[j]? = some p → ks[j]? = some k → b < p ^ k) → (∀ k ∈ ks, 1 ≤ k) → cnt row b ≤ ks.foldr (· * ·) 1
  | [], ks, b, _, _, _, h => by
    refine Nat.le_trans cnt_nil ?_
    induction ks with
    | nil => simp
    | cons k ks ih =>
      rw [List.foldr_cons]
      exact Nat.mul_pos (h k List.mem_cons_self) (ih (Nat.zero_le _) (fun j p k h => by simp at h) fun k hk => h k (List.mem_cons_of_mem _ hk))
  | p :: r, [], b, _, hl, _, _ => by simp at hl
  | p :: r, k :: ks, b, g, hl, hb, hk => by
    have ih := cnt_boxes28 r ks b g.tail (by simpa using hl) (fun j p k h1 h2 => hb (j + 1) p k (by simpa using h1) (by simpa using h2)) fun k h => hk k (List.mem_cons_of_mem _ h)
    rw [List.foldr_cons, Nat.mul_comm]
    exact box1 g (Nat.le_refl p) (hb 0 p k rfl rfl) ih
theorem step28 {q k p p0 n : Nat} (hq : q ≤ p) (h0 : p0 ≤ p) (hp : 0 < p) (hn : n < q ^ k) : n * p0 * p0 < p ^ (k + 2) := by
  have h1 : n < p ^ k := Nat.lt_of_lt_of_le hn (Nat.pow_le_pow_left hq k)
  have h2 : n * p0 * p0 ≤ n * p * p := Nat.mul_le_mul (Nat.mul_le_mul_left n h0) h0
  have h3 : n * p * p < p ^ k * p * p := Nat.mul_lt_mul_of_pos_right (Nat.mul_lt_mul_of_pos_right h1 hp) hp
  rw [Nat.pow_succ, Nat.pow_succ]
  omega
theorem head_le {p0 : Nat} {r : List Nat} (w : Rw (p0 :: r)) {p : Nat} (h : p ∈ p0 :: r) : p0 ≤ p := by
  rcases List.mem_cons.mp h with rfl | h
  · exact Nat.le_refl _
  · exact Nat.le_of_lt ((List.pairwise_cons.mp w.up).1 p h)
theorem cnt28 {p0 n : Nat} {r : List Nat} (w : Rw (p0 :: r)) (hn : n ≤ topN (p0 :: r)) : cnt (p0 :: r) (n * p0 * p0) ≤ 15900000 ∧ n * p0 * p0 < 2 ^ 74 := by
  have hp0 := w.ge (List.mem_cons_self (a := p0) (l := r))
  have key : ∀ (ks : List Nat) (T : Nat), n ≤ T → (p0 :: r).length ≤ ks.length → (∀ j k : Nat, ks[j]? = some k → T < QS.getD j 0 ^ k) → cnt (p0 :: r) (n * p0 * p0) ≤ (ks.map (· + 2)).foldr (· * ·) 1 := fun ks T hT hl h => by
    refine cnt_boxes28 (p0 :: r) (ks.map (· + 2)) _ w.good (by rw [List.length_map]; exact hl) (fun j p k h1 h2 => ?_) fun k hk => ?_
    · rw [List.getElem?_map] at h2
      cases e : ks[j]? with
      | none => rw [e] at h2; cases h2
      | some k0 =>
        rw [e] at h2
        cases h2
        have hm := List.mem_of_getElem? h1
        exact step28 (w.at h1) (head_le w hm) (by have := w.ge hm; omega) (Nat.lt_of_le_of_lt hT (h j k0 e))
    · obtain ⟨x, _, rfl⟩ := List.mem_map.mp hk
      omega
  have hbig : n * p0 * p0 ≤ 10 ^ 18 * 97 * 97 := by
    have : n ≤ 10 ^ 18 := Nat.le_trans hn (by unfold topN; split <;> omega)
    exact Nat.mul_le_mul (Nat.mul_le_mul this hp0.2) hp0.2
  refine ⟨?_, by omega⟩
  unfold topN at hn
  split at hn
  · refine Nat.le_trans (key [30, 19, 13, 11, 9, 9] (10 ^ 9) hn w.le fun j k h => ?_) (by decide)
    match j, h with
    | 0, h => cases h; decide
    | 1, h => cases h; decide
    | 2, h => cases h; decide
    | 3, h => cases h; decide
    | 4, h => cases h; decide
    | 5, h => cases h; decide
    | j + 6, h => simp at h
  · refine Nat.le_trans (key [60, 38, 26, 22] (10 ^ 18) hn (by simp only [List.length_cons, List.length_nil] at *; omega) fun j k h => ?_) (by decide)
    match j, h with
    | 0, h => cases h; decide
    | 1, h => cases h; decide
    | 2, h => cases h; decide
    | 3, h => cases h; decide
    | j + 4, h => simp at h
theorem lv_lt28 {r L F A : List Nat} {p b j : Nat} (v : Lv r L p b F A j) (g : Good (p :: r)) (h0 : IsAll r b L) (hb : b < 2 ^ 74) (hA : A ≠ []) : j < 74 := by
  obtain ⟨y, t, rfl⟩ := List.exists_cons_of_ne_nil hA
  obtain ⟨h1, m, hm, e⟩ := v.aj y List.mem_cons_self
  have h2 := (v.made y h1).2
  have h3 := mk_pos g.tail.ge ((h0.2 m).mp hm).1
  have h4 : 1 * 2 ^ j ≤ m * p ^ j := Nat.mul_le_mul h3 (Nat.pow_le_pow_left g.head j)
  rcases Nat.lt_or_ge j 74 with z | z
  · exact z
  · have := Nat.pow_le_pow_right (show 0 < 2 by omega) z
    omega
theorem cnt_of_lv28 {r L F A : List Nat} {p b j : Nat} (v : Lv r L p b F A j) (hc : cnt (p :: r) b ≤ 15900000) : F.length ≤ 15900000 ∧ A.length ≤ 15900000 := ⟨Nat.le_trans v.len hc, Nat.le_trans v.alen hc⟩
def sp_law_made28 (K : PySem.W.Frag) : Sp := fun vs H Q _ => Nod H ∧ ∃ (a : Addr) (row : List Nat) (b : Nat), vs = [.ref a, .int (b : Int)] ∧ SqL K H a (zv row) ∧ Rw row ∧ cnt row b ≤ 15900000 ∧ b < 2 ^ 74 ∧ 0 < b ∧
  ∀ (p : Addr), H p = none → Q (.ref p) (upd H p (.lst (zv (allL row b))))
/-- slots: row bound found prime ahead number -/
abbrev n_law_made28 : List Str := ["row", "bound", "found", "prime", "ahead", "number"]
def t_law_made28 (K : PySem.W.Frag) : TS := (sFg (tSeq (tAsg (tLst (tCons (tC (.int 1)) tNil)) (gName 2))
  (tSeq (tFor (iList K (tVar 0)) (gName 3) (tSeq (tAsg (tCB (cList K) (tCons (tVar 2) tNil)) (gName 4))
  (tWhile (bFg (tTest (tOp (rNeD K) (tVar 4) (tLst tNil)))) (tSeq (tAsg (tLc (iList K (tVar 4)) (gName 5) (tTest (tOp oLe (tOp oMul (tVar 5) (tVar 3)) (tVar 1))) (tOp oMul (tVar 5) (tVar 3)) [5]) (gName 4))
  (tDrop (tBM K "list" rExtend (tVar 2) (tCons (tVar 4) tNil)))))))
  (tRet (tCB (rSortedI K) (tCons (tVar 2) tNil))))))
/-- [number * prime for number in ahead if number * prime <= bound] -/
theorem el_up28 {K : PySem.W.Frag} {σ : L2.St} {H : Hp} {pa : Addr} {A : List Nat} {p b : Nat} (hA : SqL K H pa (zv A)) (hlen : A.length ≤ 15900000) (hb : b < 2 ^ 74) (hAb : ∀ x ∈ A, x ≤ b) (hp : p ≤ 97) (h1 : σ[1]? = some (some (.int (b : Int)))) (h3 : σ[3]? = some (some (.int (p : Int)))) (h4 : σ[4]? = some (some (.ref pa))) (hs : σ.length = 6) :
    EvL (tLc (iList K (tVar 4)) (gName 5) (tTest (tOp oLe (tOp oMul (tVar 5) (tVar 3)) (tVar 1))) (tOp oMul (tVar 5) (tVar 3)) [5]) σ H (zv (lvUp p b A)) := by
  obtain ⟨s0, s1, s2, s3, s4, s5, rfl⟩ : ∃ s0 s1 s2 s3 s4 s5, σ = [s0, s1, s2, s3, s4, s5] := by
    match σ, hs with
    | [s0, s1, s2, s3, s4, s5], _ => exact ⟨s0, s1, s2, s3, s4, s5, rfl⟩
  simp only [List.getElem?_cons_succ, List.getElem?_cons_zero, Option.some.injEq] at h1 h3 h4
  subst h1 h3 h4
  rw [zv, ← lv_filter]
  have hbd : ∀ i ∈ zl A, 0 ≤ i ∧ i ≤ (b : Int) := fun i hi => by
    obtain ⟨x, hx, rfl⟩ := List.mem_map.mp hi
    have := hAb x hx
    omega
  exact el_lcI (fun i => decide (i * (p : Int) ≤ (b : Int))) (fun i => i * (p : Int)) (ev_v 4) hA (by rw [zl_len]; omega) (fun _ => rfl) (fun i hi D acc hD => et_t (ev_le (ev_mul (ev_v 5) (ev_v 3) (cm (by have := hbd i hi; omega))) (ev_v 1))) fun i hi _ D acc hD => ev_mul (ev_v 5) (ev_v 3) (cm (by have := hbd i hi; omega))
theorem r_law_made28 {K : PySem.W.Frag} {vs : List V} {H : Hp} {Q : VK} {E : XK} (h : sp_law_made28 K vs H Q E) : t_law_made28 K { nx := fun _ H' => Q .non H', rt := Q } (start n_law_made vs) H := by
  obtain ⟨nd, a, row, b, rfl, sa, w, hfit, hb, hb0, q⟩ := h
  have g := w.good
  refine fg_body (q_setL (el_lst (ea_1 ev_c) (by simp)) fun p hp => ?_)
  have o : Own H [(p, zv [1])] (upd H p (.lst [.int 1])) := Own.nil.new hp
  refine q_forI (ns := zl row) (ev_v 0) (o.sq sa) (fun i σ' H' => ∃ (F : List Nat) (y3 y4 : Option V), σ' = [some (.ref a), some (.int b), some (.ref p), y3, y4, none] ∧ Own H [(p, zv F)] H' ∧ IsAll (row.take i) b F) ⟨[1], none, none, rfl, o, ?_⟩ (fun i σ' H' _ hv => ?_) (fun i x σ' H' hx hv => ?_) (fun σ' H' hv => ?_)
  · rw [List.take_zero]; exact all_nil hb0
  · obtain ⟨_, _, _, _, o, _⟩ := hv
    exact o.sq sa
  · obtain ⟨L, y3, y4, rfl, o, hL⟩ := hv
    rw [List.getElem?_map] at hx
    cases e : row[i]? with
    | none => rw [e] at hx; cases hx
    | some pr =>
      rw [e] at hx
      cases hx
      have gd := take_good g e
      have hp2 := w.ge (List.mem_of_getElem? e)
      have hcap : cnt (pr :: row.take i) b ≤ 15900000 := Nat.le_trans (take_cnt e) hfit
      refine q_setL (el_list (ev_v 2) (o.sqi 0 rfl)) fun pa hpa => ?_
      replace o := o.new (xs := zv L) hpa
      refine s_while (fun m σ' H' => ∃ (F A : List Nat) (j : Nat) (pa : Addr), σ' = [some (.ref a), some (.int b), some (.ref p), some (.int (pr : Int)), some (.ref pa), none] ∧ Own H [(pa, zv A), (p, zv F)] H' ∧ Lv (row.take i) L pr b F A j ∧ m = 75 - j ∧ j ≤ 74) 75 ⟨L, L, 0, pa, rfl, o, .start hL, rfl, by omega⟩ (fun m σ' H' hw => ?_)
      obtain ⟨F, A, j, pa, rfl, o, v, rfl, hj⟩ := hw
      have hlens := cnt_of_lv28 v hcap
      have no := o.nod
      refine ⟨_, et_nonil (ns := zl A) (o.sqi 0 rfl) (ev_v 4), fun hc => ?_, fun hc => ?_⟩
      · have hA : A ≠ [] := fun z => by subst z; simp at hc
        have hj74 := lv_lt28 v gd hL hb hA
        refine q_setL (el_up28 (o.sqi 0 rfl) hlens.2 hb (fun x hx => (v.made x (v.aj x hx).1).2) hp2.2 rfl rfl rfl rfl) fun pn hpn => ?_
        have o2 := o.new (xs := zv (lvUp pr b A)) hpn
        have v2 := v.step gd hL
        have hl2 := cnt_of_lv28 v2 hcap
        rw [List.length_append] at hl2
        refine s_ext (o2.atI 2 rfl) (o2.atI 0 rfl) ?_ (ev_v 2) (ev_v 4) ⟨75 - (j + 1), by omega, _, _, j + 1, pn, rfl, ?_, v2, rfl, by omega⟩
        · rw [zv_len, zv_len]; exact Nat.le_of_lt (szl (by omega))
        · rw [← zv_app]
          exact (o2.mut (ys := zv (F ++ lvUp pr b A)) 2 rfl).drop2
      · have hA : A = [] := by simpa using hc
        subst hA
        exact ⟨F, _, _, rfl, o.drop1, take_all e (v.fin gd hL)⟩
  · obtain ⟨F, y3, y4, rfl, o, hF⟩ := hv
    rw [zl_len, List.take_length] at hF
    refine s_retW (w_cb (w_one (w_v 2 (r_sortN (o.sqi 0 rfl) fun l ps hl hle hps => ?_))))
    rw [hF.sorted hl hle]
    have o2 := o.new (xs := zv (allL row b)) hps
    exact ⟨_, o2.ret 0 rfl, q ps (o2.offI 0 rfl)⟩
/-! ### where a number stands -/
def Ix (l : List Nat) (n k : Nat) : Prop := k ≤ l.length ∧ ∀ (i v : Nat), l[i]? = some v → (i < k ↔ v ≤ n)
theorem ix_of : ∀ {l : List Nat} {n : Nat}, l.Pairwise (· < ·) → Ix l n (l.filter fun x => decide (x ≤ n)).length
  | [], n, _ => ⟨Nat.le_refl _, fun i v h => by simp at h⟩
  | a :: t, n, hp => by
    obtain ⟨h1, h2⟩ := List.pairwise_cons.mp hp
    obtain ⟨i1, i2⟩ := ix_of (n := n) h2
    by_cases ha : a ≤ n
    · rw [List.filter_cons_of_pos (by simpa using ha)]
      refine ⟨by rw [List.length_cons, List.length_cons]; omega, fun i v h => ?_⟩
      rw [List.length_cons]
      match i, h with
      | 0, h =>
        cases h
        exact ⟨fun _ => ha, fun _ => by omega⟩
      | i + 1, h =>
        have := i2 i v (by simpa using h)
        omega
    · have e : t.filter (fun x => decide (x ≤ n)) = [] := List.filter_eq_nil_iff.mpr fun x hx => by have := h1 x hx; simp; omega
      rw [List.filter_cons_of_neg (by simpa using ha), e]
      refine ⟨Nat.zero_le _, fun i v h => ⟨fun z => absurd z (Nat.not_lt_zero _), fun z => ?_⟩⟩
      match i, h with
      | 0, h => cases h; omega
      | i + 1, h =>
        have := h1 v (List.mem_of_getElem? (show t[i]? = some v by simpa using h))
        omega
/-- the one below and the one above -/
theorem ix_two {row : List Nat} {p b n k : Nat} (g : Good row) (hp : p ∈ row) (h0 : 1 ≤ n) (hb : n * p ≤ b) (hk : Ix (allL row b) n k) : ∃ x y, 1 ≤ k ∧ (allL row b)[k - 1]? = some x ∧ (allL row b)[k]? = some y ∧ IsLast row (n + 1) x ∧ IsNext row n y ∧ y ≤ n * p := by
  have hp2 := g.ge p hp
  have hnb : n ≤ b := Nat.le_trans (by have := Nat.mul_le_mul_left n (show 1 ≤ p by omega); omega) hb
  have pair := allL_pair row b
  obtain ⟨i1, hi1⟩ := List.mem_iff_getElem?.mp (allL_mem.mpr ⟨.one, Nat.le_trans h0 hnb⟩ : 1 ∈ allL row b)
  have k1 := (hk.2 i1 1 hi1).mpr h0
  have hlk : k - 1 < (allL row b).length := by have := hk.1; omega
  obtain ⟨x, hx⟩ : ∃ x, (allL row b)[k - 1]? = some x := ⟨_, List.getElem?_eq_getElem hlk⟩
  have hxn := (hk.2 (k - 1) x hx).mp (by omega)
  have hxm := allL_mem.mp (List.mem_of_getElem? hx)
  have hmax : ∀ m, Mk row m → m ≤ n → m ≤ x := fun m hm hmn => by
    obtain ⟨i, hi⟩ := List.mem_iff_getElem?.mp (allL_mem.mpr ⟨hm, Nat.le_trans hmn hnb⟩ : m ∈ allL row b)
    have := (hk.2 i m hi).mpr hmn
    rcases Nat.lt_or_ge i (k - 1) with z | z
    · exact Nat.le_of_lt (get_lt pair hi hx z)
    · have e : i = k - 1 := by omega
      rw [e, hx] at hi
      cases hi
      exact Nat.le_refl _
  have hx0 := mk_pos g.ge hxm.1
  have hup : Mk row (p * x) := .mul hp hxm.1
  have hgt : n < p * x := by
    rcases Nat.lt_or_ge n (p * x) with z | z
    · exact z
    · have h1 := hmax _ hup z
      have h2 : 2 * x ≤ p * x := Nat.mul_le_mul_right x hp2
      omega
  have hple : p * x ≤ n * p := by rw [Nat.mul_comm]; exact Nat.mul_le_mul_right p hxn
  obtain ⟨i2, hi2⟩ := List.mem_iff_getElem?.mp (allL_mem.mpr ⟨hup, Nat.le_trans hple hb⟩ : p * x ∈ allL row b)
  have hk2 : k ≤ i2 := by
    rcases Nat.lt_or_ge i2 k with z | z
    · have := (hk.2 i2 _ hi2).mp z; omega
    · exact z
  have hlt : k < (allL row b).length := Nat.lt_of_le_of_lt hk2 (List.getElem?_eq_some_iff.mp hi2).1
  obtain ⟨y, hy⟩ : ∃ y, (allL row b)[k]? = some y := ⟨_, List.getElem?_eq_getElem hlt⟩
  have hyn : n < y := by
    rcases Nat.lt_or_ge n y with z | z
    · exact z
    · have := (hk.2 k y hy).mpr z; omega
  have hym := allL_mem.mp (List.mem_of_getElem? hy)
  have hmin : ∀ m, Mk row m → n < m → y ≤ m := fun m hm hmn => by
    rcases Nat.lt_or_ge b m with z | z
    · omega
    · obtain ⟨i, hi⟩ := List.mem_iff_getElem?.mp (allL_mem.mpr ⟨hm, z⟩ : m ∈ allL row b)
      have : ¬ i < k := fun z => by have := (hk.2 i m hi).mp z; omega
      rcases Nat.lt_or_ge k i with z | z
      · exact Nat.le_of_lt (get_lt pair hy hi z)
      · have e : i = k := by omega
        rw [e, hy] at hi
        cases hi
        exact Nat.le_refl _
  exact ⟨x, y, by omega, hx, hy, ⟨hxm.1, by omega, fun m hm hmn => hmax m hm (by omega)⟩, ⟨hym.1, hyn, hmin⟩, Nat.le_trans (hmin _ hup hgt) hple⟩
theorem near_two {row : List Nat} {n x y : Nat} (h0 : 1 ≤ n) (hx : IsLast row (n + 1) x) (hy : IsNext row n y) : (near row n : Int) = if (n : Int) - (x : Int) ≤ (y : Int) - (n : Int) then (x : Int) else (y : Int) := by
  have h1 := hx.lt
  have h2 := hy.gt
  have e1 := lst_eq hx
  unfold near
  rw [e1]
  by_cases hm : Mk row n
  · have := hx.ge n hm (by omega)
    have e : x = n := by omega
    rw [if_pos (by omega), if_pos (by omega)]
  · have e2 : nxt row (n - 1) = y := nxt_eq ⟨hy.made, by omega, fun m hmm hmn => by
      rcases Nat.lt_or_ge n m with z | z
      · exact hy.le m hmm z
      · have e : m = n := by omega
        rw [e] at hmm
        exact absurd hmm hm⟩
    rw [e2]
    split <;> split <;> omega
def sp_law_below (K : PySem.W.Frag) : Sp := fun vs H Q _ => Nod H ∧ ∃ (a : Addr) (l : List Nat) (n k : Nat), vs = [.ref a, .int (n : Int)] ∧ H a = some (.lst (zv l)) ∧ l.length ≤ 15900000 ∧ Ix l n k ∧ Q (.int (k : Int)) H
/-- slots: made number low high amid -/
abbrev n_law_below : List Str := ["made", "number", "low", "high", "amid"]
def t_law_below (K : PySem.W.Frag) : TS := (sFg (tSeq (tAsg (tC (.int 0)) (gName 2))
  (tSeq (tAsg (tCB (cLen K) (tCons (tVar 0) tNil)) (gName 3))
  (tSeq (tWhile (tTest (tOp oLt (tVar 2) (tVar 3))) (tSeq (tAsg (tOp oDiv (tOp oAdd (tVar 2) (tVar 3)) (tC (.int 2))) (gName 4))
  (tIfS (tTest (tOp oLe (tOp (rIxL K) (tVar 0) (tVar 4)) (tVar 1))) (tAsg (tOp oAdd (tVar 4) (tC (.int 1))) (gName 2)) (tAsg (tVar 4) (gName 3)))))
  (tRet (tVar 2))))))
theorem r_law_below {K : PySem.W.Frag} {vs : List V} {H : Hp} {Q : VK} {E : XK} (h : sp_law_below K vs H Q E) : t_law_below K { nx := fun _ H' => Q .non H', rt := Q } (start n_law_below vs) H := by
  obtain ⟨nd, a, l, n, k, rfl, ha, hl, hk, q⟩ := h
  have sa : SqL K H a (zv l) := sq_at ha
  refine fg_body (q_set ev_c (q_set (ev_eq (y := .int ((l.length : Nat) : Int)) (ev_len (ev_v 0) sa) (by rw [zv_len])) ?_))
  refine q_whileP (fun m σ' H' => ∃ (low high : Nat) (y4 : Option V), σ' = [some (.ref a), some (.int (n : Int)), some (.int (low : Int)), some (.int (high : Int)), y4] ∧ H' = H ∧ m = high - low ∧ low ≤ k ∧ k ≤ high ∧ high ≤ l.length) l.length ⟨0, l.length, _, rfl, rfl, rfl, Nat.zero_le _, hk.1, Nat.le_refl _⟩ fun m σ' H' hw => ?_
  obtain ⟨low, high, y4, rfl, rfl, rfl, h1, h2, h3⟩ := hw
  refine ⟨_, ep_lt (i := (low : Int)) (j := (high : Int)) (ev_v 2) (ev_v 3), fun hc => ?_, fun hc => ?_⟩
  · obtain ⟨am, ham⟩ : ∃ am, am = (low + high) / 2 := ⟨_, rfl⟩
    have e : ((low : Int) + (high : Int)) / 2 = ((am : Nat) : Int) := by rw [ham]; simp
    have hlt : am < l.length := by omega
    refine q_set (ev_eq (y := .int (am : Int)) (ev_div (i := (low : Int) + (high : Int)) (j := 2) (ev_add (ev_v 2) (ev_v 3)) ev_c (cd (by omega))) (congrArg V.int e)) ?_
    have hiff := hk.2 am l[am] (List.getElem?_eq_getElem hlt)
    refine s_ifP (ep_le (i := ((l[am] : Nat) : Int)) (j := (n : Int)) (ev_ixL (ev_v 0) (ev_v 4) sa (zv_at hlt)) (ev_v 1)) (fun hc2 => ?_) fun hc2 => ?_
    · have := hiff.mpr (by omega)
      exact s_set (ev_add (i := (am : Int)) (ev_v 4) ev_c) ⟨high - (am + 1), by omega, am + 1, high, _, rfl, rfl, rfl, by omega, h2, h3⟩
    · have : ¬ am < k := fun z => hc2 (by have := hiff.mp z; omega)
      exact s_set (ev_v 4) ⟨am - low, by omega, low, am, _, rfl, rfl, rfl, h1, by omega, by omega⟩
  · have e : low = k := by omega
    subst e
    exact s_ret (ev_v 2) ⟨_, fg_same ex_refl, q⟩
def sp_law_due (K : PySem.W.Frag) : Sp := fun vs H Q _ => Nod H ∧ ∃ (a : Addr) (l : List Nat) (n k x y : Nat), vs = [.ref a, .int (n : Int)] ∧ H a = some (.lst (zv l)) ∧ l.length ≤ 15900000 ∧ Ix l n k ∧ 1 ≤ k ∧ l[k - 1]? = some x ∧ l[k]? = some y ∧ Q (.int (if (n : Int) - (x : Int) ≤ (y : Int) - (n : Int) then (x : Int) else (y : Int))) H
/-- slots: made number at below above -/
abbrev n_law_due : List Str := ["made", "number", "at", "below", "above"]
def t_law_due (K : PySem.W.Frag) : TS := (sFg (tSeq (tAsg (tCall (sp_law_below K) [] E0 (tCons (tVar 0) (tCons (tVar 1) tNil))) (gName 2))
  (tSeq (tAsg (tOp (rIxL K) (tVar 0) (tOp oSub (tVar 2) (tC (.int 1)))) (gName 3))
  (tSeq (tAsg (tOp (rIxL K) (tVar 0) (tVar 2)) (gName 4))
  (tRet (tOp (rIxL K) (tLst (tCons (tVar 4) (tCons (tVar 3) tNil))) (tCB cInt (tCons (tOp oLe (tOp oSub (tVar 1) (tVar 3)) (tOp oSub (tVar 4) (tVar 1))) tNil))))))))
theorem r_law_due {K : PySem.W.Frag} {vs : List V} {H : Hp} {Q : VK} {E : XK} (h : sp_law_due K vs H Q E) : t_law_due K { nx := fun _ H' => Q .non H', rt := Q } (start n_law_due vs) H := by
  obtain ⟨nd, a, l, n, k, x, y, rfl, ha, hl, hk, k1, hx, hy, q⟩ := h
  have sa : SqL K H a (zv l) := sq_at ha
  refine fg_body (q_set (v := .int (k : Int)) (ev_call (ea_2 (ev_v 0) (ev_v 1)) fun Q q => ⟨nd, a, l, n, k, rfl, ha, hl, hk, q⟩) ?_)
  refine q_set (v := .int (x : Int)) (ev_ixL (ev_v 0) (ev_eq (y := .int ((k - 1 : Nat) : Int)) (ev_sub (i := (k : Int)) (ev_v 2) ev_c) (by congr 1; omega)) sa (at_of rfl (zv_get hx))) ?_
  refine q_set (v := .int (y : Int)) (ev_ixL (ev_v 0) (ev_v 2) sa (at_of rfl (zv_get hy))) ?_
  refine s_retW (w_op (w_evL (el_lst (ea_2 (ev_v 4) (ev_v 3)) (by simp)) fun pt hpt => w_ev (ev_intB (ev_le (i := (n : Int) - (x : Int)) (j := (y : Int) - (n : Int)) (ev_sub (ev_v 1) (ev_v 3)) (ev_sub (ev_v 4) (ev_v 1)))) ?_))
  refine r_ix (v := .int (if (n : Int) - (x : Int) ≤ (y : Int) - (n : Int) then (x : Int) else (y : Int))) sq_up ?_ ⟨H, fg_same (ex_new hpt), q⟩
  by_cases h : (n : Int) - (x : Int) ≤ (y : Int) - (n : Int)
  · rw [if_pos h, decide_eq_true h]; rfl
  · rw [if_neg h, decide_eq_false h]; rfl
def sp_law_whole (K : PySem.W.Frag) : Sp := fun vs H Q _ => Nod H ∧ ∃ (i : Int), vs = [.int i, .int i] ∧ Q (.bl true) H
/-- slots: found due -/
abbrev n_law_whole : List Str := ["found", "due"]
def t_law_whole (K : PySem.W.Frag) : TS := (sFg (tRet (tAndV (tCB (rIsi K) (tCons (tVar 0) (tCons (tC (.ty "int")) tNil))) (tAndV (tNotV (tCB (rIsi K) (tCons (tVar 0) (tCons (tC (.ty "bool")) tNil)))) (tOp rEq (tVar 0) (tVar 1))))))
theorem r_law_whole {K : PySem.W.Frag} {vs : List V} {H : Hp} {Q : VK} {E : XK} (h : sp_law_whole K vs H Q E) : t_law_whole K { nx := fun _ H' => Q .non H', rt := Q } (start n_law_whole vs) H := by
  obtain ⟨nd, i, rfl, q⟩ := h
  exact fg_body (s_ret (v := .bl true) (ev_eq (ev_and (ev_isi (ev_v 0) ev_c (.ty "int") (.base (.int i)) (kit_ty (r := true) (by decide +kernel))) fun _ => ev_and (ev_not (ev_isi (ev_v 0) ev_c (.ty "bool") (.base (.int i)) (kit_ty (r := false) (by decide +kernel)))) fun _ => ev_eqi (ev_v 0) (ev_v 1)) (by simp)) ⟨H, fg_same ex_refl, q⟩)
end Px
set_option Elab.async false
set_option linter.all false
set_option maxRecDepth 100000
set_option maxHeartbeats 4000000
namespace Px
open PySem L2 MA
local macro_rules | `(tactic| bv_omega) => `(tactic| first | assumption | omega | exact cm (by omega) | exact cd (by omega) | exact cp (by omega) | exact trivial)
local macro_rules | `(tactic| array_get_dec) => `(tactic| first
  | assumption
  | exact sq_up
  | exact Own.sqi (by assumption) 0 (by rfl)
  | exact Own.sqi (by assumption) 1 (by rfl)
  | exact Own.sqi (by assumption) 2 (by rfl)
  | exact Own.sqi (by assumption) 3 (by rfl)
  | exact Own.sqi (by assumption) 4 (by rfl)
  | exact Own.sq (by assumption) (by assumption)
  | exact sq_new (by assumption) (by assumption))
local macro_rules | `(tactic| clean_wf) => `(tactic| first
  | with_reducible exact ev_c
  | (with_reducible apply ev_v') <;> rfl
  | (with_reducible apply ev_add) <;> clean_wf
  | (with_reducible apply ev_sub) <;> clean_wf
  | (with_reducible apply ev_mul) <;> clean_wf
  | (with_reducible apply ev_mod) <;> clean_wf
  | (with_reducible apply ev_div) <;> clean_wf
  | (with_reducible apply ev_pow) <;> clean_wf
  | (with_reducible apply ev_neg) <;> clean_wf
  | (with_reducible apply ev_lt) <;> clean_wf
  | (with_reducible apply ev_le) <;> clean_wf
  | (with_reducible apply ev_gt) <;> clean_wf
  | (with_reducible apply ev_ge) <;> clean_wf
  | (with_reducible apply ev_eqi) <;> clean_wf
  | (with_reducible apply ev_nei) <;> clean_wf
  | (with_reducible apply ev_len) <;> clean_wf
  | (with_reducible apply ev_ixL) <;> clean_wf
  | (with_reducible apply ev_min) <;> clean_wf
  | (with_reducible apply ev_max) <;> clean_wf
  | (with_reducible apply ev_abs) <;> clean_wf
  | (with_reducible apply ev_intB) <;> clean_wf
  | (with_reducible apply ea_1) <;> clean_wf
  | (with_reducible apply ea_2) <;> clean_wf
  | (with_reducible apply ea_3) <;> clean_wf
  | with_reducible exact ea_nil
  | (with_reducible apply ea_cons) <;> clean_wf
  | with_reducible exact el_nil
  | (with_reducible apply ep_lt) <;> clean_wf
  | (with_reducible apply ep_le) <;> clean_wf
  | (with_reducible apply ep_gt) <;> clean_wf
  | (with_reducible apply ep_ge) <;> clean_wf
  | (with_reducible apply ep_eqi) <;> clean_wf
  | (with_reducible apply ep_nei) <;> clean_wf
  | (with_reducible apply ep_not) <;> clean_wf
  | ((with_reducible apply ep_and) <;> first | (intro _; clean_wf; done) | clean_wf)
  | ((with_reducible apply ep_or) <;> first | (intro _; clean_wf; done) | clean_wf)
  | (with_reducible apply et_t) <;> clean_wf
  | (with_reducible apply eo_is) <;> clean_wf
  | with_reducible exact eo_no
  | array_get_dec
  | bv_omega
  | rfl
  | skip)
local macro_rules | `(tactic| symm_saturate) => `(tactic| first
  | ((with_reducible apply q_set); (focus (clean_wf; done)))
  | ((with_reducible apply s_set); (focus (clean_wf; done)))
  | ((with_reducible apply q_aug (hx := rfl)); (focus (clean_wf; done)))
  | ((with_reducible apply s_aug (hx := rfl)); (focus (clean_wf; done)))
  | ((with_reducible apply q_augC (hx := rfl)); (focus (clean_wf; done)))
  | ((with_reducible apply s_augC (hx := rfl)); (focus (clean_wf; done))))
local macro_rules | `(tactic| subst_eqs) => `(tactic| repeat' (first
  | with_reducible apply w_c
  | ((with_reducible apply w_v'); (focus rfl))
  | with_reducible apply w_op
  | with_reducible apply w_cb
  | with_reducible apply w_cons
  | with_reducible apply w_nil
  | with_reducible apply r_add
  | with_reducible apply r_sub
  | ((with_reducible apply r_mul); (focus (bv_omega; done)))
  | ((with_reducible apply r_div); (focus (bv_omega; done)))
  | ((with_reducible apply r_mod); (focus (bv_omega; done)))
  | ((with_reducible apply r_pow); (focus (bv_omega; done)))
  | with_reducible apply r_lt
  | with_reducible apply r_le
  | with_reducible apply r_gt
  | with_reducible apply r_ge
  | with_reducible apply r_min
  | with_reducible apply r_max
  | with_reducible apply r_intB
  | ((with_reducible apply r_len); (focus (array_get_dec; done)))
  | with_reducible apply w_callW
  | with_reducible apply q_setW
  | with_reducible apply s_setW
  | with_reducible apply s_retW))

/-! ### known ones -/
theorem rw2 : Rw [2] := ⟨by decide, by decide, by decide⟩
theorem rw235 : Rw [2, 3, 5] := ⟨by decide, by decide, by decide⟩
theorem c2 (b : Nat) {c : Nat} (hb : b < 2 ^ 70) (h : cntF 80 [2] b = c) : cnt [2] b = c := cnt_c rw2.good hb (by decide) h
theorem nearA : near [2] 3298534883328 = 2199023255552 := near_c (x := 4398046511104) (y := 2199023255552) (nxt_eq (next_of_cnt (by omega) (by rw [c2 (c := 42) (4398046511104 - 1) (by decide) (by decide +kernel), c2 (c := 42) (3298534883328 - 1) (by decide) (by decide +kernel)]) (by rw [c2 (c := 43) 4398046511104 (by decide) (by decide +kernel), c2 (c := 42) (3298534883328 - 1) (by decide) (by decide +kernel)]))) (lst_eq (last_of_cnt (by omega) (by rw [c2 (c := 42) (3298534883328 + 1 - 1) (by decide) (by decide +kernel), c2 (c := 42) 2199023255552 (by decide) (by decide +kernel)]) (by rw [c2 (c := 42) 2199023255552 (by decide) (by decide +kernel), c2 (c := 41) (2199023255552 - 1) (by decide) (by decide +kernel)]))) (by decide)
theorem mk235 : Mk [2, 3, 5] (10 ^ 18) := mk_cons.mpr ⟨18, 5 ^ 18, by decide, mk_cons.mpr ⟨0, 5 ^ 18, by decide, mk_cons.mpr ⟨18, 1, by decide, .one⟩⟩⟩
theorem nearB : near [2, 3, 5] (10 ^ 18) = 10 ^ 18 := near_c (x := nxt [2, 3, 5] (10 ^ 18 - 1)) (y := 10 ^ 18) rfl (lst_eq ⟨mk235, by omega, fun m _ h => by omega⟩) (by rw [Nat.sub_self]; exact if_pos (Nat.zero_le _))
/-! ### the law -/
def sp_law (K : PySem.W.Frag) : Sp := fun vs H Q _ => Nod H ∧ ∃ (a : Addr) (ns : List Int), vs = [.ref a] ∧ SqL K H a (ns.map V.int) ∧ ns.length ≤ 63 ∧ ∀ H', Q (.bl true) H'
/-- slots: script k cell hand row most number made at amid handed some due again -/
abbrev n_law : List Str := ["script", "k", "cell", "hand", "row", "most", "number", "made", "at", "amid", "handed", "some", "due", "again"]
def t_law (K : PySem.W.Frag) : TS := (sFg (tSeq (tFor (iList K (tCall (sp_law_cells K) [] E0 (tCons (tVar 0) (tCons (tC (.int 4)) tNil)))) (gTup K 2 (gCons (gName 1) (gCons (gName 2) gNil))) (tSeq (tAsg (tCall (sp_law_hand K) [] E0 (tCons (tVar 2) (tCons (tVar 1) tNil))) (gName 3))
  (tSeq (tAsg (tCall (sp_law_row K) [] E0 (tCons (tVar 3) tNil)) (gName 4))
  (tSeq (tAsg (tCall (sp_law_most K) [] E0 (tCons (tVar 4) tNil)) (gName 5))
  (tSeq (tAsg (tCB cMax (tCons (tC (.int 1)) (tCons (tCall (sp_law_bound K) [] E0 (tCons (tVar 3) (tCons (tVar 4) (tCons (tC (.int 60)) (tCons (tVar 5) tNil))))) tNil))) (gName 6))
  (tSeq (tAsg (tCall (sp_law_made28 K) [] E0 (tCons (tVar 4) (tCons (tOp oMul (tOp oMul (tVar 6) (tOp (rIxL K) (tVar 4) (tC (.int 0)))) (tOp (rIxL K) (tVar 4) (tC (.int 0)))) tNil))) (gName 7))
  (tSeq (tAsg (tCall (sp_law_below K) [] E0 (tCons (tVar 7) (tCons (tVar 6) tNil))) (gName 8))
  (tSeq (tAsg (tOp oDiv (tOp oAdd (tOp (rIxL K) (tVar 7) (tOp oSub (tVar 8) (tC (.int 1)))) (tOp (rIxL K) (tVar 7) (tVar 8))) (tC (.int 2))) (gName 9))
  (tSeq (tAsg (tCB (cList K) (tCons (tVar 4) tNil)) (gName 10))
  (tFor (iList K (tLst (tCons (tVar 6) (tCons (tCB cMin (tCons (tVar 5) (tCons (tVar 9) tNil))) (tCons (tCB cMin (tCons (tVar 5) (tCons (tOp oAdd (tVar 9) (tC (.int 1))) tNil))) tNil))))) (gName 11) (tSeq (tAsg (tCall (sp_law_due K) [] E0 (tCons (tVar 7) (tCons (tVar 11) tNil))) (gName 12))
  (tFor (iRng1 (tCons (tC (.int 2)) tNil)) (gName 13) (tIfS (tOr (tNot (tB (tCall (sp_law_whole K) [] E0 (tCons (tCall (sp_nearest K) [] E0 (tCons (tVar 10) (tCons (tVar 11) tNil))) (tCons (tVar 12) tNil))))) (tTest (tOp (rNeD K) (tVar 10) (tVar 4)))) (tRet (tC (.bl false))) tNext)))))))))))))
  (tRet (tAndV (tOp rEq (tCall (sp_nearest K) [] E0 (tCons (tLst (tCons (tC (.int 2)) tNil)) (tCons (tOp oMul (tC (.int 3)) (tOp oPow (tC (.int 2)) (tC (.int 40)))) tNil))) (tOp oPow (tC (.int 2)) (tC (.int 41)))) (tOp rEq (tCall (sp_nearest K) [] E0 (tCons (tLst (tCons (tC (.int 2)) (tCons (tC (.int 3)) (tCons (tC (.int 5)) tNil)))) (tCons (tOp oPow (tC (.int 10)) (tC (.int 18))) tNil))) (tOp oPow (tC (.int 10)) (tC (.int 18))))))))
theorem r_law {K : PySem.W.Frag} {vs : List V} {H : Hp} {Q : VK} {E : XK} (h : sp_law K vs H Q E) : t_law K { nx := fun _ H' => Q .non H', rt := Q } (start n_law vs) H := by
  obtain ⟨nd, a, ns, rfl, ha, hl, q⟩ := h
  refine fg_body (for_cells (m := 4) (ea_2 (ev_v 0) ev_c) ha hl (fun σ' => ∃ y1 y2 y3 y4 y5 y6 y7 y8 y9 y10 y11 y12 y13 : Option V, σ' = [some (.ref a), y1, y2, y3, y4, y5, y6, y7, y8, y9, y10, y11, y12, y13]) ⟨_, _, _, _, _, _, _, _, _, _, _, _, _, rfl⟩ (fun H1 e1 k c σ' H' k0 k1 hP e hnd => ?_) fun σ' H' hP e hnd => ?_)
  · obtain ⟨y1, y2, y3, y4, y5, y6, y7, y8, y9, y10, y11, y12, y13, rfl⟩ := hP
    refine q_setW (w_callW (w_cons (w_v 2 (w_one (w_v 1 ⟨hnd, c, k, rfl, k0, by omega, fun pa d s hpa ok => ?_⟩)))))
    have o : Own H' [(pa, hd d s)] (upd H' pa (.lst (hd d s))) := Own.nil.new hpa
    refine q_setW (w_callW (w_one (w_v 3 ?_)))
    refine o.rowB 0 rfl ok fun pr row d s H2 w hne ok o => ?_
    replace o : Own H' [(pr, zv row), (pa, hd d s)] H2 := o
    have hrp : pr ≠ pa := o.ne 0 1 rfl rfl (by decide)
    have htop : 10 ^ 9 ≤ topN row ∧ topN row ≤ 10 ^ 18 := by unfold topN; split <;> omega
    have no2 := o.nod
    refine q_set (v := .int (topN row : Int)) (ev_call (ea_1 (ev_v 4)) fun Q q => ⟨no2, pr, row, rfl, o.sqi 0 rfl, q⟩) ?_
    refine q_setW (w_cb (w_cons (w_c (w_one (w_callW (w_cons (w_v 3 (w_cons (w_v 4 (w_cons (w_c (w_one (w_v 5 ?_)))))))))))))
    refine o.bound (few := 60) (most := topN row) 1 rfl ok (o.sqi 0 rfl) hrp w hne (by omega) fun b0 d s H3 hb0 ok o => ⟨1, (b0 : Int), rfl, ?_⟩
    replace o : Own H' [(pr, zv row), (pa, hd d s)] H3 := o
    obtain ⟨n, en, n0, n1⟩ : ∃ n : Nat, (if (b0 : Int) > 1 then (b0 : Int) else 1) = (n : Int) ∧ 1 ≤ n ∧ n ≤ topN row := ⟨max 1 b0, by split <;> omega, by omega, by omega⟩
    rw [en]
    clear en hb0 b0
    obtain ⟨p0, r0, rfl⟩ := List.exists_cons_of_ne_nil hne
    have hp0 := w.ge (List.mem_cons_self (a := p0) (l := r0))
    have hc := cnt28 w n1
    have hB0 : 0 < n * p0 * p0 := Nat.mul_pos (Nat.mul_pos (by omega) (by omega)) (by omega)
    have hnp : n * p0 ≤ n * p0 * p0 := by have := Nat.mul_le_mul_left (n * p0) (show 1 ≤ p0 by omega); omega
    have hn97 : n * p0 ≤ 10 ^ 18 * 97 := Nat.mul_le_mul (by omega) hp0.2
    have no3 := o.nod
    -- made
    refine q_setW (w_callW (w_cons (w_v 4 (w_one (w_ev (ev_eq (y := .int ((n * p0 * p0 : Nat) : Int)) (ev_mul (i := ((n * p0 : Nat) : Int)) (j := (p0 : Int)) (ev_eq (y := .int ((n * p0 : Nat) : Int)) (ev_mul (i := (n : Int)) (j := (p0 : Int)) (ev_v 6) (ev_ixL (ev_v 4) ev_c (o.sqi 0 rfl) (zv_at (l := p0 :: r0) (i := 0) (by simp))) (cm (by omega))) (by simp)) (ev_ixL (ev_v 4) ev_c (o.sqi 0 rfl) (zv_at (l := p0 :: r0) (i := 0) (by simp))) (cm (by omega))) (by simp)) ⟨no3, pr, p0 :: r0, n * p0 * p0, rfl, o.sqi 0 rfl, w, hc.1, hc.2, hB0, fun pm hpm => ?_⟩)))))
    obtain ⟨B, hB⟩ : ∃ B, B = n * p0 * p0 := ⟨_, rfl⟩
    rw [← hB] at hc hB0 hnp ⊢
    replace o := o.new (xs := zv (allL (p0 :: r0) B)) hpm
    have hlen : (allL (p0 :: r0) B).length ≤ 15900000 := hc.1
    have pair := allL_pair (p0 :: r0) B
    have mem0 : p0 ∈ p0 :: r0 := List.mem_cons_self
    obtain ⟨kx, hk⟩ : ∃ kx, Ix (allL (p0 :: r0) B) n kx := ⟨_, ix_of pair⟩
    obtain ⟨x, y, k1', hx, hy, lx, ly, hyn⟩ := ix_two w.good mem0 n0 hnp hk
    have hxy : x < y := by have := lx.lt; have := ly.gt; omega
    have hx0 := mk_pos w.good.ge lx.made
    have no4 := o.nod
    -- at, amid, handed
    refine q_set (v := .int (kx : Int)) (ev_call (ea_2 (ev_v 7) (ev_v 6)) fun Q q => ⟨no4, pm, _, n, kx, rfl, o.atI 0 rfl, hlen, hk, q⟩) ?_
    refine q_set (v := .int (((x + y) / 2 : Nat) : Int)) (ev_eq (ev_div (i := (x : Int) + (y : Int)) (j := 2) (ev_add (i := (x : Int)) (j := (y : Int)) (ev_ixL (ev_v 7) (ev_eq (y := .int ((kx - 1 : Nat) : Int)) (ev_sub (i := (kx : Int)) (ev_v 8) ev_c) (by congr 1; omega)) (o.sqi 0 rfl) (at_of rfl (zv_get hx))) (ev_ixL (ev_v 7) (ev_v 8) (o.sqi 0 rfl) (at_of rfl (zv_get hy)))) ev_c (cd (by omega))) (by simp)) ?_
    obtain ⟨am, ham⟩ : ∃ am, am = (x + y) / 2 := ⟨_, rfl⟩
    rw [← ham]
    refine q_setL (el_list (ev_v 4) (o.sqi 1 rfl)) fun pn hpn => ?_
    replace o := o.new (xs := zv (p0 :: r0)) hpn
    have t1 : (if (am : Int) < (topN (p0 :: r0) : Int) then (am : Int) else (topN (p0 :: r0) : Int)) = ((min (topN (p0 :: r0)) am : Nat) : Int) := by split <;> omega
    have t2 : (if (am : Int) + 1 < (topN (p0 :: r0) : Int) then (am : Int) + 1 else (topN (p0 :: r0) : Int)) = ((min (topN (p0 :: r0)) (am + 1) : Nat) : Int) := by split <;> omega
    refine w_forL (w_evL (el_lst (vs := zv [n, min (topN (p0 :: r0)) am, min (topN (p0 :: r0)) (am + 1)]) (ea_3 (ev_v 6) (ev_eq (ev_min (i := (topN (p0 :: r0) : Int)) (j := (am : Int)) (ev_v 5) (ev_v 9)) (congrArg V.int t1)) (ev_eq (ev_min (i := (topN (p0 :: r0) : Int)) (j := (am : Int) + 1) (ev_v 5) (ev_add (i := (am : Int)) (ev_v 9) ev_c)) (congrArg V.int t2))) (by rw [zv_len]; simp)) fun ps hps => ?_)
    have hbs : ∀ v ∈ [n, min (topN (p0 :: r0)) am, min (topN (p0 :: r0)) (am + 1)], 1 ≤ v ∧ v ≤ topN (p0 :: r0) ∧ v * p0 ≤ B := fun v hv => by
      have h3 : v ≤ n * p0 → v * p0 ≤ B := fun z => by rw [hB]; exact Nat.mul_le_mul_right p0 z
      have h4 : n ≤ n * p0 := by have := Nat.mul_le_mul_left n (show 1 ≤ p0 by omega); omega
      simp only [List.mem_cons, List.not_mem_nil, or_false] at hv
      rcases hv with rfl | rfl | rfl
      · exact ⟨n0, n1, h3 h4⟩
      · exact ⟨by omega, by omega, h3 (by omega)⟩
      · exact ⟨by omega, by omega, h3 (by omega)⟩
    generalize [n, min (topN (p0 :: r0)) am, min (topN (p0 :: r0)) (am + 1)] = bs at o hbs hps ⊢
    replace o := o.new (xs := zv bs) hps
    refine ⟨ps, rfl, ⟨_, o.sqi 0 rfl⟩, lp_list (xs := zv bs) (fun j σ' H5 => ∃ y11 y12 y13 : Option V, σ' = [some (.ref a), some (.int k), some (.int c), some (.ref pa), some (.ref pr), some (.int (topN (p0 :: r0) : Int)), some (.int (n : Int)), some (.ref pm), some (.int (kx : Int)), some (.int (am : Int)), some (.ref pn), y11, y12, y13] ∧ Own H' [(ps, zv bs), (pn, zv (p0 :: r0)), (pm, zv (allL (p0 :: r0) B)), (pr, zv (p0 :: r0)), (pa, hd d s)] H5) ⟨_, _, _, rfl, o⟩ (fun j σ' H5 _ hv => ?_) (fun j v σ' H5 hj hv => ?_) fun σ' H5 hv => ?_⟩
    · obtain ⟨_, _, _, _, o⟩ := hv
      exact o.sqi 0 rfl
    · clear o no2 no3 no4
      obtain ⟨y11, y12, y13, rfl, o⟩ := hv
      obtain ⟨v, ex, rfl⟩ := zv_some hj
      obtain ⟨v0, v1, v2⟩ := hbs v (List.mem_of_getElem? ex)
      obtain ⟨kv, hkv⟩ : ∃ kv, Ix (allL (p0 :: r0) B) v kv := ⟨_, ix_of pair⟩
      obtain ⟨x', y', kv1, hx', hy', lx', ly', _⟩ := ix_two w.good mem0 v0 v2 hkv
      have no := o.nod
      refine q_set (v := .int (near (p0 :: r0) v : Int)) (ev_call (ea_2 (ev_v 7) (ev_v 11)) fun Q q => ⟨no, pm, _, v, kv, x', y', rfl, o.atI 2 rfl, hlen, hkv, kv1, hx', hy', by rw [← near_two v0 lx' ly']; exact q⟩) ?_
      refine s_forR1 (k := 2) (ea_1 ev_c) (by omega) (fun i σ' H6 => ∃ y13 : Option V, σ' = [some (.ref a), some (.int k), some (.int c), some (.ref pa), some (.ref pr), some (.int (topN (p0 :: r0) : Int)), some (.int (n : Int)), some (.ref pm), some (.int (kx : Int)), some (.int (am : Int)), some (.ref pn), some (.int (v : Int)), some (.int (near (p0 :: r0) v : Int)), y13] ∧ Own H' [(ps, zv bs), (pn, zv (p0 :: r0)), (pm, zv (allL (p0 :: r0) B)), (pr, zv (p0 :: r0)), (pa, hd d s)] H6) ⟨_, rfl, o⟩ (fun i σ' H6 hi hv => ?_) fun σ' H6 hv => ?_
      · clear o no
        obtain ⟨y13, rfl, o⟩ := hv
        have no := o.nod
        exact s_when (b := false) (et_eq (et_or (a := false) (b := false) (et_eq (et_not (et_b (ev_call (v := .bl true) (ea_2 (ev_call (v := .int (near (p0 :: r0) v : Int)) (ea_2 (ev_v 10) (ev_v 11)) fun Q q => ⟨no, pn, p0 :: r0, v, rfl, ⟨o.atI 1 rfl, w, hne⟩, by omega, v1, q⟩) (ev_v 12)) fun Q q => ⟨no, _, rfl, q⟩))) rfl) fun _ => et_eq (et_t (ev_op (ev_v 10) (ev_v 4) (rv_neI (ns := zl (p0 :: r0)) (ms := zl (p0 :: r0)) (o.sqi 1 rfl) (o.sqi 3 rfl)))) (by simp)) rfl) (fun z => nomatch z) fun _ => ⟨_, rfl, o⟩
      · obtain ⟨y13, rfl, o⟩ := hv
        exact ⟨_, _, _, rfl, o⟩
    · obtain ⟨y11, y12, y13, rfl, o⟩ := hv
      exact ⟨⟨_, _, _, _, _, _, _, _, _, _, _, _, _, rfl⟩, ex_trans e o.ex, o.nod⟩
  · obtain ⟨y1, y2, y3, y4, y5, y6, y7, y8, y9, y10, y11, y12, y13, rfl⟩ := hP
    have o : Own H' [] H' := Own.nil
    refine s_retW (w_andV (w_op (w_callW (w_cons (w_evL (el_lst (vs := zv [2]) (ea_1 ev_c) (by simp)) fun p1 hp1 => w_one (w_ev (ev_eq (y := .int ((3298534883328 : Nat) : Int)) (ev_mul (i := 3) (j := 2 ^ (40 : Int).toNat) ev_c (ev_pow ev_c ev_c (cp (by decide))) (cm (by decide))) rfl) ?_))))))
    replace o := o.new (xs := zv [2]) hp1
    refine ⟨o.nod, p1, [2], 3298534883328, rfl, ⟨o.atI 0 rfl, rw2, by simp⟩, by omega, by unfold topN; decide, w_ev (ev_eq (y := .int ((2199023255552 : Nat) : Int)) (ev_pow ev_c ev_c (cp (by decide))) rfl) ⟨rfl, _, rfl, ?_⟩⟩
    rw [nearA, decide_eq_true rfl]
    refine iteT (w_op (w_callW (w_cons (w_evL (el_lst (vs := zv [2, 3, 5]) (ea_3 ev_c ev_c ev_c) (by simp)) fun p2 hp2 => w_one (w_ev (ev_eq (y := .int ((10 ^ 18 : Nat) : Int)) (ev_pow ev_c ev_c (cp (by decide))) rfl) ?_)))))
    replace o := o.new (xs := zv [2, 3, 5]) hp2
    refine ⟨o.nod, p2, [2, 3, 5], 10 ^ 18, rfl, ⟨o.atI 0 rfl, rw235, by simp⟩, by omega, by unfold topN; decide, w_ev (ev_eq (y := .int ((10 ^ 18 : Nat) : Int)) (ev_pow ev_c ev_c (cp (by decide))) rfl) ⟨rfl, ?_⟩⟩
    rw [nearB, decide_eq_true rfl]
    exact ⟨H, fg_same (ex_trans e o.ex), q _⟩
end Px
set_option Elab.async false
set_option linter.all false
set_option maxRecDepth 100000
set_option maxHeartbeats 0
namespace K28
open PySem PySem.Spec PyProof.Rows L2 Px
def top (i : Nat) : Stmt := PySem.Challenge.pw_smallparts_k28_nearest_of_great_numbers.main.body.getD i (.Pass ⟨0, 0, 0, 0⟩)
abbrev s_law_cells : Stmt := top 20
abbrev N_law_cells : List Str := ["script", "many"]
theorem sc_law_cells : FnScope N_law_cells ["script", "many"] (defScope s_law_cells) := ⟨rfl, rfl, rfl, by decide +kernel, rfl, by decide +kernel, by decide +kernel⟩
abbrev s_law_hand : Stmt := top 18
abbrev N_law_hand : List Str := ["cell", "k", "digits"]
theorem sc_law_hand : FnScope N_law_hand ["cell", "k"] (defScope s_law_hand) := ⟨rfl, rfl, rfl, by decide +kernel, rfl, by decide +kernel, by decide +kernel⟩
abbrev s_law_draw : Stmt := top 19
abbrev N_law_draw : List Str := ["hand", "limit", "got"]
theorem sc_law_draw : FnScope N_law_draw ["hand", "limit"] (defScope s_law_draw) := ⟨rfl, rfl, rfl, by decide +kernel, rfl, by decide +kernel, by decide +kernel⟩
abbrev s_law_row : Stmt := top 21
abbrev N_law_row : List Str := ["hand", "primes", "many", "way", "at", "left", "found", "k"]
theorem sc_law_row : FnScope N_law_row ["hand"] (defScope s_law_row) := ⟨rfl, rfl, rfl, by decide +kernel, rfl, by decide +kernel, by decide +kernel⟩
abbrev s_law_most : Stmt := top 22
abbrev N_law_most : List Str := ["row"]
theorem sc_law_most : FnScope N_law_most ["row"] (defScope s_law_most) := ⟨rfl, rfl, rfl, by decide +kernel, rfl, by decide +kernel, by decide +kernel⟩
abbrev s_law_made28 : Stmt := top 23
abbrev N_law_made28 : List Str := ["row", "bound", "found", "prime", "ahead", "number"]
theorem sc_law_made28 : FnScope N_law_made28 ["row", "bound"] (defScope s_law_made28) := ⟨rfl, rfl, rfl, by decide +kernel, rfl, by decide +kernel, by decide +kernel⟩
abbrev s_law_below : Stmt := top 26
abbrev N_law_below : List Str := ["made", "number", "low", "high", "amid"]
theorem sc_law_below : FnScope N_law_below ["made", "number"] (defScope s_law_below) := ⟨rfl, rfl, rfl, by decide +kernel, rfl, by decide +kernel, by decide +kernel⟩
abbrev s_law_bound : Stmt := top 24
abbrev N_law_bound : List Str := ["hand", "row", "few", "most", "way", "far", "found", "turn", "prime"]
theorem sc_law_bound : FnScope N_law_bound ["hand", "row", "few", "most"] (defScope s_law_bound) := ⟨rfl, rfl, rfl, by decide +kernel, rfl, by decide +kernel, by decide +kernel⟩
abbrev s_law_due : Stmt := top 27
abbrev N_law_due : List Str := ["made", "number", "at", "below", "above"]
theorem sc_law_due : FnScope N_law_due ["made", "number"] (defScope s_law_due) := ⟨rfl, rfl, rfl, by decide +kernel, rfl, by decide +kernel, by decide +kernel⟩
abbrev s_is_whole : Stmt := top 6
abbrev N_is_whole : List Str := ["thing"]
theorem sc_is_whole : FnScope N_is_whole ["thing"] (defScope s_is_whole) := ⟨rfl, rfl, rfl, by decide +kernel, rfl, by decide +kernel, by decide +kernel⟩
abbrev s_is_row : Stmt := top 7
abbrev N_is_row : List Str := ["thing", "one", "further"]
theorem sc_is_row : FnScope N_is_row ["thing"] (defScope s_is_row) := ⟨rfl, rfl, rfl, by decide +kernel, rfl, by decide +kernel, by decide +kernel⟩
abbrev s_need_row : Stmt := top 8
abbrev N_need_row : List Str := ["row"]
theorem sc_need_row : FnScope N_need_row ["row"] (defScope s_need_row) := ⟨rfl, rfl, rfl, by decide +kernel, rfl, by decide +kernel, by decide +kernel⟩
abbrev s_made_to : Stmt := top 10
abbrev N_made_to : List Str := ["row", "bound", "found", "prime", "at"]
theorem sc_made_to : FnScope N_made_to ["row", "bound"] (defScope s_made_to) := ⟨rfl, rfl, rfl, by decide +kernel, rfl, by decide +kernel, by decide +kernel⟩
abbrev s_grown : Stmt := top 12
abbrev N_grown : List Str := ["number", "prime", "bound"]
theorem sc_grown : FnScope N_grown ["number", "prime", "bound"] (defScope s_grown) := ⟨rfl, rfl, rfl, by decide +kernel, rfl, by decide +kernel, by decide +kernel⟩
abbrev s_next_one : Stmt := top 13
abbrev N_next_one : List Str := ["row", "number", "best", "rest"]
theorem sc_next_one : FnScope N_next_one ["row", "number"] (defScope s_next_one) := ⟨rfl, rfl, rfl, by decide +kernel, rfl, by decide +kernel, by decide +kernel⟩
abbrev s_last_one : Stmt := top 14
abbrev N_last_one : List Str := ["row", "number", "rest"]
theorem sc_last_one : FnScope N_last_one ["row", "number"] (defScope s_last_one) := ⟨rfl, rfl, rfl, by decide +kernel, rfl, by decide +kernel, by decide +kernel⟩
abbrev s_nearest : Stmt := top 16
abbrev N_nearest : List Str := ["row", "number", "above", "below"]
theorem sc_nearest : FnScope N_nearest ["row", "number"] (defScope s_nearest) := ⟨rfl, rfl, rfl, by decide +kernel, rfl, by decide +kernel, by decide +kernel⟩
abbrev s_law_whole : Stmt := top 25
abbrev N_law_whole : List Str := ["found", "due"]
theorem sc_law_whole : FnScope N_law_whole ["found", "due"] (defScope s_law_whole) := ⟨rfl, rfl, rfl, by decide +kernel, rfl, by decide +kernel, by decide +kernel⟩
abbrev s_law : Stmt := top 28
abbrev N_law : List Str := ["script", "k", "cell", "hand", "row", "most", "number", "made", "at", "amid", "handed", "some", "due", "again"]
theorem sc_law : FnScope N_law ["script"] (defScope s_law) := ⟨rfl, rfl, rfl, by decide +kernel, rfl, by decide +kernel, by decide +kernel⟩
section
variable {P : Program} {w : World} {K : PySem.W.Frag} {mg : Str → Option Value} {base : Heap} {f : Addr} {fd : FuncData}
theorem ok_law_cells (F : FnP K "_law_cells" s_law_cells f fd) (g : mg "_law_cells" = some (.ref f)) (m_enumerate : mg "enumerate" = none) (m_int : mg "int" = none) (m_list : mg "list" = none) : Fn P w K mg base "_law_cells" 1 ["script", "many"] (sp_law_cells K) := by
  refine ⟨f, fd, F.ok (k := 0) sc_law_cells (fun vs H Q E h => by first | (obtain ⟨_, _, rfl, _⟩ := h; rfl) | (obtain ⟨_, _, _, rfl, _⟩ := h; rfl) | (obtain ⟨_, _, _, _, rfl, _⟩ := h; rfl) | (obtain ⟨_, _, _, _, _, rfl, _⟩ := h; rfl) | (obtain ⟨_, _, _, _, _, _, rfl, _⟩ := h; rfl) | (obtain ⟨_, _, _, _, _, _, _, rfl, _⟩ := h; rfl) | (obtain ⟨_, _, _, _, _, _, _, _, rfl, _⟩ := h; rfl) | (obtain ⟨_, _, _, _, _, _, _, _, _, rfl, _⟩ := h; rfl) | (obtain ⟨_, _, _, _, _, _, _, _, _, _, rfl, _⟩ := h; rfl) | (obtain ⟨_, _, _, _, _, _, _, _, _, _, _, rfl, _⟩ := h; rfl) | (obtain ⟨_, _, _, _, _, _, _, _, _, _, _, _, rfl, _⟩ := h; rfl) | (obtain ⟨_, _, _, _, _, _, _, _, _, _, _, _, _, rfl, _⟩ := h; rfl) | (obtain ⟨_, _, _, _, _, _, _, _, _, _, _, _, _, _, rfl, _⟩ := h; rfl) | (obtain ⟨_, _, _, _, _, _, _, _, _, _, _, _, _, _, _, rfl, _⟩ := h; rfl)) (fun cdv A outer s H vs Q E hr h => ⟨t_law_cells K, PSs.nox ?_, r_law_cells h⟩), g, F.kp, F.bindsN fun _ _ _ _ _ _ us hl => match us, hl with | [_, _], _ => rfl⟩
  exact (pss_fg (pss_one (ps_ret (pe_listEnum (by rfl) m_list (by rfl) m_enumerate rfl (pa_cons (pe_op op_cat (pe_slice sl_list (pv 0) po_none (po_some (pv 1))) (pe_op op_rep (pe_lst (pa_cons pe_int pa_nil)) (pe_callTy call_int1 (by rfl) m_int (by decide +kernel) (pa_cons (pe_cmpR (op_eqD hr.units) (pv 0) (pe_lst pa_nil) (nomark _)) pa_nil)))) pa_nil)))))
theorem ok_law_hand (F : FnP K "_law_hand" s_law_hand f fd) (g : mg "_law_hand" = some (.ref f))  : Fn P w K mg base "_law_hand" 1 ["cell", "k"] (sp_law_hand K) := by
  refine ⟨f, fd, F.ok (k := 0) sc_law_hand (fun vs H Q E h => by first | (obtain ⟨_, _, rfl, _⟩ := h; rfl) | (obtain ⟨_, _, _, rfl, _⟩ := h; rfl) | (obtain ⟨_, _, _, _, rfl, _⟩ := h; rfl) | (obtain ⟨_, _, _, _, _, rfl, _⟩ := h; rfl) | (obtain ⟨_, _, _, _, _, _, rfl, _⟩ := h; rfl) | (obtain ⟨_, _, _, _, _, _, _, rfl, _⟩ := h; rfl) | (obtain ⟨_, _, _, _, _, _, _, _, rfl, _⟩ := h; rfl) | (obtain ⟨_, _, _, _, _, _, _, _, _, rfl, _⟩ := h; rfl) | (obtain ⟨_, _, _, _, _, _, _, _, _, _, rfl, _⟩ := h; rfl) | (obtain ⟨_, _, _, _, _, _, _, _, _, _, _, rfl, _⟩ := h; rfl) | (obtain ⟨_, _, _, _, _, _, _, _, _, _, _, _, rfl, _⟩ := h; rfl) | (obtain ⟨_, _, _, _, _, _, _, _, _, _, _, _, _, rfl, _⟩ := h; rfl) | (obtain ⟨_, _, _, _, _, _, _, _, _, _, _, _, _, _, rfl, _⟩ := h; rfl) | (obtain ⟨_, _, _, _, _, _, _, _, _, _, _, _, _, _, _, rfl, _⟩ := h; rfl)) (fun cdv A outer s H vs Q E hr h => ⟨t_law_hand K, PSs.nox ?_, r_law_hand h⟩), g, F.kp, F.bindsN fun _ _ _ _ _ _ us hl => match us, hl with | [_, _], _ => rfl⟩
  exact (pss_fg (pss_cons (ps_set (i := 2) sc_law_hand.nd rfl (Or.inl rfl) pe_int)
      (pss_cons (ps_if (pt_cmpR op_ge (pv 0) (pe_op op_pow pe_int pe_int) (nomark _)) (pss_one (ps_set (i := 2) sc_law_hand.nd rfl (Or.inl rfl) (pv 0))) pss_nil)
      (pss_one (ps_ret (pe_lst (pa_cons (pv 2) (pa_cons (pe_op op_mod (pe_op op_mulW (pe_op op_add (pe_op op_add (pe_op op_mod (pv 0) pe_int) (pe_op op_mulW pe_int (pv 1))) pe_int) pe_int) pe_int) pa_nil))))))))
theorem ok_law_draw (F : FnP K "_law_draw" s_law_draw f fd) (g : mg "_law_draw" = some (.ref f))  : Fn P w K mg base "_law_draw" 1 ["hand", "limit"] (sp_law_draw K) := by
  refine ⟨f, fd, F.ok (k := 0) sc_law_draw (fun vs H Q E h => by first | (obtain ⟨_, _, rfl, _⟩ := h; rfl) | (obtain ⟨_, _, _, rfl, _⟩ := h; rfl) | (obtain ⟨_, _, _, _, rfl, _⟩ := h; rfl) | (obtain ⟨_, _, _, _, _, rfl, _⟩ := h; rfl) | (obtain ⟨_, _, _, _, _, _, rfl, _⟩ := h; rfl) | (obtain ⟨_, _, _, _, _, _, _, rfl, _⟩ := h; rfl) | (obtain ⟨_, _, _, _, _, _, _, _, rfl, _⟩ := h; rfl) | (obtain ⟨_, _, _, _, _, _, _, _, _, rfl, _⟩ := h; rfl) | (obtain ⟨_, _, _, _, _, _, _, _, _, _, rfl, _⟩ := h; rfl) | (obtain ⟨_, _, _, _, _, _, _, _, _, _, _, rfl, _⟩ := h; rfl) | (obtain ⟨_, _, _, _, _, _, _, _, _, _, _, _, rfl, _⟩ := h; rfl) | (obtain ⟨_, _, _, _, _, _, _, _, _, _, _, _, _, rfl, _⟩ := h; rfl) | (obtain ⟨_, _, _, _, _, _, _, _, _, _, _, _, _, _, rfl, _⟩ := h; rfl) | (obtain ⟨_, _, _, _, _, _, _, _, _, _, _, _, _, _, _, rfl, _⟩ := h; rfl)) (fun cdv A outer s H vs Q E hr h => ⟨t_law_draw K, PSs.nox ?_, r_law_draw h⟩), g, F.kp, F.bindsN fun _ _ _ _ _ _ us hl => match us, hl with | [_, _], _ => rfl⟩
  exact (pss_fg (pss_cons (ps_if (pt_cmpR op_gt (pe_ix ix_list (pv 0) pe_int (fun _ _ => rfl)) pe_int (nomark _)) (pss_cons (ps_set (i := 2) sc_law_draw.nd rfl (Or.inl rfl) (pe_op op_mod (pe_ix ix_list (pv 0) pe_int (fun _ _ => rfl)) (pv 1)))
      (pss_cons (ps_asg (pe_op op_fdivW (pe_ix ix_list (pv 0) pe_int (fun _ _ => rfl)) (pv 1)) (pg_sub (pv 0) pe_int set_list))
      (pss_one (ps_ret (pv 2))))) pss_nil)
      (pss_cons (ps_asg (pe_op op_mod (pe_op op_add (pe_op op_add (pe_op op_mulW (pe_ix ix_list (pv 0) pe_int (fun _ _ => rfl)) (pe_ix ix_list (pv 0) pe_int (fun _ _ => rfl))) (pe_op op_mulW pe_int (pe_ix ix_list (pv 0) pe_int (fun _ _ => rfl)))) pe_int) pe_int) (pg_sub (pv 0) pe_int set_list))
      (pss_one (ps_ret (pe_op op_mod (pe_op op_fdivW (pe_ix ix_list (pv 0) pe_int (fun _ _ => rfl)) pe_int) (pv 1)))))))
theorem ok_law_row (F : FnP K "_law_row" s_law_row f fd) (g : mg "_law_row" = some (.ref f)) (F_law_draw : Fn P w K mg base "_law_draw" 1 ["hand", "limit"] (sp_law_draw K)) (m_int : mg "int" = none) (m_len : mg "len" = none) (m_range : mg "range" = none) (m_sorted : mg "sorted" = none) : Fn P w K mg base "_law_row" 2 ["hand"] (sp_law_row K) := by
  refine ⟨f, fd, F.ok (k := 1) sc_law_row (fun vs H Q E h => by first | (obtain ⟨_, _, rfl, _⟩ := h; rfl) | (obtain ⟨_, _, _, rfl, _⟩ := h; rfl) | (obtain ⟨_, _, _, _, rfl, _⟩ := h; rfl) | (obtain ⟨_, _, _, _, _, rfl, _⟩ := h; rfl) | (obtain ⟨_, _, _, _, _, _, rfl, _⟩ := h; rfl) | (obtain ⟨_, _, _, _, _, _, _, rfl, _⟩ := h; rfl) | (obtain ⟨_, _, _, _, _, _, _, _, rfl, _⟩ := h; rfl) | (obtain ⟨_, _, _, _, _, _, _, _, _, rfl, _⟩ := h; rfl) | (obtain ⟨_, _, _, _, _, _, _, _, _, _, rfl, _⟩ := h; rfl) | (obtain ⟨_, _, _, _, _, _, _, _, _, _, _, rfl, _⟩ := h; rfl) | (obtain ⟨_, _, _, _, _, _, _, _, _, _, _, _, rfl, _⟩ := h; rfl) | (obtain ⟨_, _, _, _, _, _, _, _, _, _, _, _, _, rfl, _⟩ := h; rfl) | (obtain ⟨_, _, _, _, _, _, _, _, _, _, _, _, _, _, rfl, _⟩ := h; rfl) | (obtain ⟨_, _, _, _, _, _, _, _, _, _, _, _, _, _, _, rfl, _⟩ := h; rfl)) (fun cdv A outer s H vs Q E hr h => ⟨t_law_row K, PSs.nox ?_, r_law_row h⟩), g, F.kp, F.bindsN fun _ _ _ _ _ _ us hl => match us, hl with | [_], _ => rfl⟩
  exact (pss_fg (pss_cons (ps_set (i := 1) sc_law_row.nd rfl (Or.inl rfl) (pe_lst (pa_cons pe_int (pa_cons pe_int (pa_cons pe_int (pa_cons pe_int (pa_cons pe_int (pa_cons pe_int (pa_cons pe_int (pa_cons pe_int (pa_cons pe_int (pa_cons pe_int (pa_cons pe_int (pa_cons pe_int (pa_cons pe_int (pa_cons pe_int (pa_cons pe_int (pa_cons pe_int (pa_cons pe_int (pa_cons pe_int (pa_cons pe_int (pa_cons pe_int (pa_cons pe_int (pa_cons pe_int (pa_cons pe_int (pa_cons pe_int (pa_cons pe_int pa_nil)))))))))))))))))))))))))))
      (pss_cons (ps_set (i := 2) sc_law_row.nd rfl (Or.inl rfl) (pe_op op_add pe_int (pe_fn F_law_draw (hr.mono (by decide)) (pa_cons (pv 0) (pa_cons pe_int pa_nil)))))
      (pss_cons (ps_set (i := 3) sc_law_row.nd rfl (Or.inl rfl) (pe_fn F_law_draw (hr.mono (by decide)) (pa_cons (pv 0) (pa_cons pe_int pa_nil))))
      (pss_cons (ps_if (pt_cmpR op_eq (pv 3) pe_int (nomark _)) (pss_one (ps_ret (pe_slice sl_list (pv 1) po_none (po_some (pv 2))))) pss_nil)
      (pss_cons (ps_if (pt_cmpR op_eq (pv 3) pe_int (nomark _)) (pss_cons (ps_set (i := 4) sc_law_row.nd rfl (Or.inl rfl) (pe_fn F_law_draw (hr.mono (by decide)) (pa_cons (pv 0) (pa_cons (pe_op op_sub pe_int (pv 2)) pa_nil))))
      (pss_one (ps_ret (pe_slice sl_list (pv 1) (po_some (pv 4)) (po_some (pe_op op_add (pv 4) (pv 2))))))) pss_nil)
      (pss_cons (ps_set (i := 5) sc_law_row.nd rfl (Or.inr rfl) (pe_slice sl_list (pv 1) (po_some (pe_ix ix_list (pe_lst (pa_cons pe_int (pa_cons pe_int (pa_cons pe_int (pa_cons pe_int pa_nil))))) (pv 3) (fun _ _ => rfl))) po_none))
      (pss_cons (ps_setLc (i := 6) (own := [("k", 7)]) (g := (gName 7)) (tt := tYes) rfl sc_law_row.nd rfl rfl (sw_true rfl rfl rfl (by decide +kernel)) (pi_range1 (by rfl) m_range (pa_cons (pv 2) pa_nil)) (blkOk_by (N := N_law_row) (sc := defScope s_law_row) (by decide +kernel)) (fun _ _ _ _ _ => (pg_name (i := 7) sc_law_row.nd rfl (Or.inl rfl))) (fun _ _ _ _ _ => pts_nil) (fun _ _ _ _ _ => (pe_bm PySem.F.plainAttrs_list PySem.F.slot_list_pop PySem.F.type_list_pop mt_popAt (pv 5) (pa_cons (pe_fn F_law_draw (hr.mono (by decide)) (pa_cons (pv 0) (pa_cons (pe_callB call_len_seq (by rfl) m_len (by decide +kernel) (pa_cons (pv 5) pa_nil)) pa_nil))) pa_nil))))
      (pss_one (ps_ret (pe_slice sl_list (pe_callB cr_sortedI (by rfl) m_sorted (by decide +kernel) (pa_cons (pe_op op_cat (pv 6) (pe_op op_rep (pe_lst (pa_cons pe_int pa_nil)) (pe_callTy call_int1 (by rfl) m_int (by decide +kernel) (pa_cons (pe_and (pe_cmpR op_eq (pv 3) pe_int (nomark _)) (pe_one (pe_cmpR op_notIn_seq pe_int (pv 6) (by with_unfolding_all rfl)))) pa_nil)))) pa_nil)) po_none (po_some pe_int))))))))))))
theorem ok_law_most (F : FnP K "_law_most" s_law_most f fd) (g : mg "_law_most" = some (.ref f)) (m_int : mg "int" = none) (m_len : mg "len" = none) : Fn P w K mg base "_law_most" 1 ["row"] (sp_law_most K) := by
  refine ⟨f, fd, F.ok (k := 0) sc_law_most (fun vs H Q E h => by first | (obtain ⟨_, _, rfl, _⟩ := h; rfl) | (obtain ⟨_, _, _, rfl, _⟩ := h; rfl) | (obtain ⟨_, _, _, _, rfl, _⟩ := h; rfl) | (obtain ⟨_, _, _, _, _, rfl, _⟩ := h; rfl) | (obtain ⟨_, _, _, _, _, _, rfl, _⟩ := h; rfl) | (obtain ⟨_, _, _, _, _, _, _, rfl, _⟩ := h; rfl) | (obtain ⟨_, _, _, _, _, _, _, _, rfl, _⟩ := h; rfl) | (obtain ⟨_, _, _, _, _, _, _, _, _, rfl, _⟩ := h; rfl) | (obtain ⟨_, _, _, _, _, _, _, _, _, _, rfl, _⟩ := h; rfl) | (obtain ⟨_, _, _, _, _, _, _, _, _, _, _, rfl, _⟩ := h; rfl) | (obtain ⟨_, _, _, _, _, _, _, _, _, _, _, _, rfl, _⟩ := h; rfl) | (obtain ⟨_, _, _, _, _, _, _, _, _, _, _, _, _, rfl, _⟩ := h; rfl) | (obtain ⟨_, _, _, _, _, _, _, _, _, _, _, _, _, _, rfl, _⟩ := h; rfl) | (obtain ⟨_, _, _, _, _, _, _, _, _, _, _, _, _, _, _, rfl, _⟩ := h; rfl)) (fun cdv A outer s H vs Q E hr h => ⟨t_law_most K, PSs.nox ?_, r_law_most h⟩), g, F.kp, F.bindsN fun _ _ _ _ _ _ us hl => match us, hl with | [_], _ => rfl⟩
  exact (pss_fg (pss_one (ps_ret (pe_fg (pe_ix ix_list (pe_lst (pa_cons (pe_op op_pow pe_int pe_int) (pa_cons (pe_op op_pow pe_int pe_int) pa_nil))) (pe_callTy call_int1 (by rfl) m_int (by decide +kernel) (pa_cons (pe_cmpR op_lt (pe_callB call_len_seq (by rfl) m_len (by decide +kernel) (pa_cons (pv 0) pa_nil)) pe_int (nomark _)) pa_nil)) (fun _ _ => rfl))))))
theorem ok_law_made28 (F : FnP K "_law_made" s_law_made28 f fd) (g : mg "_law_made" = some (.ref f)) (m_list : mg "list" = none) (m_sorted : mg "sorted" = none) : Fn P w K mg base "_law_made" 1 ["row", "bound"] (sp_law_made28 K) := by
  refine ⟨f, fd, F.ok (k := 0) sc_law_made28 (fun vs H Q E h => by first | (obtain ⟨_, _, rfl, _⟩ := h; rfl) | (obtain ⟨_, _, _, rfl, _⟩ := h; rfl) | (obtain ⟨_, _, _, _, rfl, _⟩ := h; rfl) | (obtain ⟨_, _, _, _, _, rfl, _⟩ := h; rfl) | (obtain ⟨_, _, _, _, _, _, rfl, _⟩ := h; rfl) | (obtain ⟨_, _, _, _, _, _, _, rfl, _⟩ := h; rfl) | (obtain ⟨_, _, _, _, _, _, _, _, rfl, _⟩ := h; rfl) | (obtain ⟨_, _, _, _, _, _, _, _, _, rfl, _⟩ := h; rfl) | (obtain ⟨_, _, _, _, _, _, _, _, _, _, rfl, _⟩ := h; rfl) | (obtain ⟨_, _, _, _, _, _, _, _, _, _, _, rfl, _⟩ := h; rfl) | (obtain ⟨_, _, _, _, _, _, _, _, _, _, _, _, rfl, _⟩ := h; rfl) | (obtain ⟨_, _, _, _, _, _, _, _, _, _, _, _, _, rfl, _⟩ := h; rfl) | (obtain ⟨_, _, _, _, _, _, _, _, _, _, _, _, _, _, rfl, _⟩ := h; rfl) | (obtain ⟨_, _, _, _, _, _, _, _, _, _, _, _, _, _, _, rfl, _⟩ := h; rfl)) (fun cdv A outer s H vs Q E hr h => ⟨t_law_made28 K, PSs.nox ?_, r_law_made28 h⟩), g, F.kp, F.bindsN fun _ _ _ _ _ _ us hl => match us, hl with | [_, _], _ => rfl⟩
  exact (pss_fg (pss_cons (ps_set (i := 2) sc_law_made28.nd rfl (Or.inl rfl) (pe_lst (pa_cons pe_int pa_nil)))
      (pss_cons (ps_for PassesOwn.never rfl (pi_list (pv 0)) (pg_name (i := 3) sc_law_made28.nd rfl (Or.inr rfl)) (pss_cons (ps_set (i := 4) sc_law_made28.nd rfl (Or.inl rfl) (pe_callTy call_list_of (by rfl) m_list (by decide +kernel) (pa_cons (pv 2) pa_nil)))
      (pss_one (ps_while PassesOwn.never (pt_fg (pt_cmpR (op_neD hr.units) (pv 4) (pe_lst pa_nil) (nomark _))) (pss_cons (ps_setLc (i := 4) (own := [("number", 5)]) (g := (gName 5)) (tt := (tTest (tOp oLe (tOp oMul (tVar 5) (tVar 3)) (tVar 1)))) rfl sc_law_made28.nd rfl rfl (sw_true rfl rfl rfl (by decide +kernel)) (pi_list (pv 4)) (blkOk_by (N := N_law_made28) (sc := defScope s_law_made28) (by decide +kernel)) (fun _ _ _ _ _ => (pg_name (i := 5) sc_law_made28.nd rfl (Or.inl rfl))) (fun _ _ _ _ _ => (pts_one (pt_cmpR op_le (pe_op op_mulW (pv 5) (pv 3)) (pv 1) (nomark _)))) (fun _ _ _ _ _ => (pe_op op_mulW (pv 5) (pv 3))))
      (pss_one (ps_expr (pe_bm PySem.F.plainAttrs_list PySem.F.slot_list_extend PySem.F.type_list_extend mt_extend (pv 2) (pa_cons (pv 4) pa_nil)))))))))
      (pss_one (ps_ret (pe_callB cr_sortedI (by rfl) m_sorted (by decide +kernel) (pa_cons (pv 2) pa_nil)))))))
theorem ok_law_below (F : FnP K "_law_below" s_law_below f fd) (g : mg "_law_below" = some (.ref f)) (m_len : mg "len" = none) : Fn P w K mg base "_law_below" 1 ["made", "number"] (sp_law_below K) := by
  refine ⟨f, fd, F.ok (k := 0) sc_law_below (fun vs H Q E h => by first | (obtain ⟨_, _, rfl, _⟩ := h; rfl) | (obtain ⟨_, _, _, rfl, _⟩ := h; rfl) | (obtain ⟨_, _, _, _, rfl, _⟩ := h; rfl) | (obtain ⟨_, _, _, _, _, rfl, _⟩ := h; rfl) | (obtain ⟨_, _, _, _, _, _, rfl, _⟩ := h; rfl) | (obtain ⟨_, _, _, _, _, _, _, rfl, _⟩ := h; rfl) | (obtain ⟨_, _, _, _, _, _, _, _, rfl, _⟩ := h; rfl) | (obtain ⟨_, _, _, _, _, _, _, _, _, rfl, _⟩ := h; rfl) | (obtain ⟨_, _, _, _, _, _, _, _, _, _, rfl, _⟩ := h; rfl) | (obtain ⟨_, _, _, _, _, _, _, _, _, _, _, rfl, _⟩ := h; rfl) | (obtain ⟨_, _, _, _, _, _, _, _, _, _, _, _, rfl, _⟩ := h; rfl) | (obtain ⟨_, _, _, _, _, _, _, _, _, _, _, _, _, rfl, _⟩ := h; rfl) | (obtain ⟨_, _, _, _, _, _, _, _, _, _, _, _, _, _, rfl, _⟩ := h; rfl) | (obtain ⟨_, _, _, _, _, _, _, _, _, _, _, _, _, _, _, rfl, _⟩ := h; rfl)) (fun cdv A outer s H vs Q E hr h => ⟨t_law_below K, PSs.nox ?_, r_law_below h⟩), g, F.kp, F.bindsN fun _ _ _ _ _ _ us hl => match us, hl with | [_, _], _ => rfl⟩
  exact (pss_fg (pss_cons (ps_set (i := 2) sc_law_below.nd rfl (Or.inl rfl) pe_int)
      (pss_cons (ps_set (i := 3) sc_law_below.nd rfl (Or.inl rfl) (pe_callB call_len_seq (by rfl) m_len (by decide +kernel) (pa_cons (pv 0) pa_nil)))
      (pss_cons (ps_while PassesOwn.never (pt_cmpR op_lt (pv 2) (pv 3) (nomark _)) (pss_cons (ps_set (i := 4) sc_law_below.nd rfl (Or.inl rfl) (pe_op op_fdivW (pe_op op_add (pv 2) (pv 3)) pe_int))
      (pss_one (ps_if (pt_cmpR op_le (pe_ix ix_list (pv 0) (pv 4) (fun _ _ => rfl)) (pv 1) (nomark _)) (pss_one (ps_set (i := 2) sc_law_below.nd rfl (Or.inl rfl) (pe_op op_add (pv 4) pe_int))) (pss_one (ps_set (i := 3) sc_law_below.nd rfl (Or.inl rfl) (pv 4)))))))
      (pss_one (ps_ret (pv 2)))))))
theorem ok_law_bound (F : FnP K "_law_bound" s_law_bound f fd) (g : mg "_law_bound" = some (.ref f)) (F_law_draw : Fn P w K mg base "_law_draw" 1 ["hand", "limit"] (sp_law_draw K)) (m_len : mg "len" = none) (m_max : mg "max" = none) (m_min : mg "min" = none) (m_range : mg "range" = none) : Fn P w K mg base "_law_bound" 2 ["hand", "row", "few", "most"] (sp_law_bound K) := by
  refine ⟨f, fd, F.ok (k := 1) sc_law_bound (fun vs H Q E h => by first | (obtain ⟨_, _, rfl, _⟩ := h; rfl) | (obtain ⟨_, _, _, rfl, _⟩ := h; rfl) | (obtain ⟨_, _, _, _, rfl, _⟩ := h; rfl) | (obtain ⟨_, _, _, _, _, rfl, _⟩ := h; rfl) | (obtain ⟨_, _, _, _, _, _, rfl, _⟩ := h; rfl) | (obtain ⟨_, _, _, _, _, _, _, rfl, _⟩ := h; rfl) | (obtain ⟨_, _, _, _, _, _, _, _, rfl, _⟩ := h; rfl) | (obtain ⟨_, _, _, _, _, _, _, _, _, rfl, _⟩ := h; rfl) | (obtain ⟨_, _, _, _, _, _, _, _, _, _, rfl, _⟩ := h; rfl) | (obtain ⟨_, _, _, _, _, _, _, _, _, _, _, rfl, _⟩ := h; rfl) | (obtain ⟨_, _, _, _, _, _, _, _, _, _, _, _, rfl, _⟩ := h; rfl) | (obtain ⟨_, _, _, _, _, _, _, _, _, _, _, _, _, rfl, _⟩ := h; rfl) | (obtain ⟨_, _, _, _, _, _, _, _, _, _, _, _, _, _, rfl, _⟩ := h; rfl) | (obtain ⟨_, _, _, _, _, _, _, _, _, _, _, _, _, _, _, rfl, _⟩ := h; rfl)) (fun cdv A outer s H vs Q E hr h => ⟨t_law_bound K, PSs.nox ?_, r_law_bound h⟩), g, F.kp, F.bindsN fun _ _ _ _ _ _ us hl => match us, hl with | [_, _, _, _], _ => rfl⟩
  exact (pss_fg (pss_cons (ps_set (i := 4) sc_law_bound.nd rfl (Or.inl rfl) (pe_fn F_law_draw (hr.mono (by decide)) (pa_cons (pv 0) (pa_cons pe_int pa_nil))))
      (pss_cons (ps_if (pt_cmpR op_lt (pv 4) pe_int (nomark _)) (pss_one (ps_ret (pe_fn F_law_draw (hr.mono (by decide)) (pa_cons (pv 0) (pa_cons (pe_op op_add (pv 2) pe_int) pa_nil))))) pss_nil)
      (pss_cons (ps_if (pt_cmpR op_eq (pv 4) pe_int (nomark _)) (pss_one (ps_ret (pv 3))) pss_nil)
      (pss_cons (ps_set (i := 5) sc_law_bound.nd rfl (Or.inl rfl) (pe_op op_add (pe_op op_add (pe_op op_mulW (pe_fn F_law_draw (hr.mono (by decide)) (pa_cons (pv 0) (pa_cons (pe_op op_pow pe_int pe_int) pa_nil))) (pe_op op_pow pe_int pe_int)) (pe_op op_mulW (pe_fn F_law_draw (hr.mono (by decide)) (pa_cons (pv 0) (pa_cons (pe_op op_pow pe_int pe_int) pa_nil))) (pe_op op_pow pe_int pe_int))) (pe_fn F_law_draw (hr.mono (by decide)) (pa_cons (pv 0) (pa_cons (pe_op op_pow pe_int pe_int) pa_nil)))))
      (pss_cons (ps_set (i := 5) sc_law_bound.nd rfl (Or.inl rfl) (pe_op op_mod (pv 5) (pe_op op_add (pv 3) pe_int)))
      (pss_cons (ps_if (pt_cmpR op_eq (pv 4) pe_int (nomark _)) (pss_one (ps_ret (pv 5))) pss_nil)
      (pss_cons (ps_set (i := 6) sc_law_bound.nd rfl (Or.inl rfl) pe_int)
      (pss_cons (ps_for PassesOwn.never rfl (pi_range1 (by rfl) m_range (pa_cons (pe_fn F_law_draw (hr.mono (by decide)) (pa_cons (pv 0) (pa_cons pe_int pa_nil))) pa_nil)) (pg_name (i := 7) sc_law_bound.nd rfl (Or.inl rfl)) (pss_cons (ps_set (i := 8) sc_law_bound.nd rfl (Or.inl rfl) (pe_ix ix_list (pv 1) (pe_fn F_law_draw (hr.mono (by decide)) (pa_cons (pv 0) (pa_cons (pe_callB call_len_seq (by rfl) m_len (by decide +kernel) (pa_cons (pv 1) pa_nil)) pa_nil))) (fun _ _ => rfl)))
      (pss_one (ps_if (pt_cmpR op_le (pe_op op_mulW (pv 6) (pv 8)) (pv 3) (nomark _)) (pss_one (ps_set (i := 6) sc_law_bound.nd rfl (Or.inl rfl) (pe_op op_mulW (pv 6) (pv 8)))) pss_nil))))
      (pss_one (ps_ret (pe_callB (call_max2 rfl) (by rfl) m_max (by decide +kernel) (pa_cons pe_int (pa_cons (pe_callB (call_min2 rfl) (by rfl) m_min (by decide +kernel) (pa_cons (pv 3) (pa_cons (pe_op op_add (pv 6) (pe_ix ix_list (pe_lst (pa_cons pe_int (pa_cons (pe_op op_sub (pe_fn F_law_draw (hr.mono (by decide)) (pa_cons (pv 0) (pa_cons pe_int pa_nil))) pe_int) pa_nil))) (pe_op op_sub (pv 4) pe_int) (fun _ _ => rfl))) pa_nil))) pa_nil))))))))))))))
theorem ok_law_due (F : FnP K "_law_due" s_law_due f fd) (g : mg "_law_due" = some (.ref f)) (F_law_below : Fn P w K mg base "_law_below" 1 ["made", "number"] (sp_law_below K)) (m_int : mg "int" = none) : Fn P w K mg base "_law_due" 2 ["made", "number"] (sp_law_due K) := by
  refine ⟨f, fd, F.ok (k := 1) sc_law_due (fun vs H Q E h => by first | (obtain ⟨_, _, rfl, _⟩ := h; rfl) | (obtain ⟨_, _, _, rfl, _⟩ := h; rfl) | (obtain ⟨_, _, _, _, rfl, _⟩ := h; rfl) | (obtain ⟨_, _, _, _, _, rfl, _⟩ := h; rfl) | (obtain ⟨_, _, _, _, _, _, rfl, _⟩ := h; rfl) | (obtain ⟨_, _, _, _, _, _, _, rfl, _⟩ := h; rfl) | (obtain ⟨_, _, _, _, _, _, _, _, rfl, _⟩ := h; rfl) | (obtain ⟨_, _, _, _, _, _, _, _, _, rfl, _⟩ := h; rfl) | (obtain ⟨_, _, _, _, _, _, _, _, _, _, rfl, _⟩ := h; rfl) | (obtain ⟨_, _, _, _, _, _, _, _, _, _, _, rfl, _⟩ := h; rfl) | (obtain ⟨_, _, _, _, _, _, _, _, _, _, _, _, rfl, _⟩ := h; rfl) | (obtain ⟨_, _, _, _, _, _, _, _, _, _, _, _, _, rfl, _⟩ := h; rfl) | (obtain ⟨_, _, _, _, _, _, _, _, _, _, _, _, _, _, rfl, _⟩ := h; rfl) | (obtain ⟨_, _, _, _, _, _, _, _, _, _, _, _, _, _, _, rfl, _⟩ := h; rfl)) (fun cdv A outer s H vs Q E hr h => ⟨t_law_due K, PSs.nox ?_, r_law_due h⟩), g, F.kp, F.bindsN fun _ _ _ _ _ _ us hl => match us, hl with | [_, _], _ => rfl⟩
  exact (pss_fg (pss_cons (ps_set (i := 2) sc_law_due.nd rfl (Or.inl rfl) (pe_fn F_law_below (hr.mono (by decide)) (pa_cons (pv 0) (pa_cons (pv 1) pa_nil))))
      (pss_cons (ps_set (i := 3) sc_law_due.nd rfl (Or.inl rfl) (pe_ix ix_list (pv 0) (pe_op op_sub (pv 2) pe_int) (fun _ _ => rfl)))
      (pss_cons (ps_set (i := 4) sc_law_due.nd rfl (Or.inl rfl) (pe_ix ix_list (pv 0) (pv 2) (fun _ _ => rfl)))
      (pss_one (ps_ret (pe_ix ix_list (pe_lst (pa_cons (pv 4) (pa_cons (pv 3) pa_nil))) (pe_callTy call_int1 (by rfl) m_int (by decide +kernel) (pa_cons (pe_cmpR op_le (pe_op op_sub (pv 1) (pv 3)) (pe_op op_sub (pv 4) (pv 1)) (nomark _)) pa_nil)) (fun _ _ => rfl))))))))
theorem ok_is_whole (F : FnP K "is_whole" s_is_whole f fd) (g : mg "is_whole" = some (.ref f)) (m_bool : mg "bool" = none) (m_int : mg "int" = none) (m_isinstance : mg "isinstance" = none) : Fn P w K mg base "is_whole" 1 ["thing"] (sp_is_whole K) := by
  refine ⟨f, fd, F.ok (k := 0) sc_is_whole (fun vs H Q E h => by first | (obtain ⟨_, _, rfl, _⟩ := h; rfl) | (obtain ⟨_, _, _, rfl, _⟩ := h; rfl) | (obtain ⟨_, _, _, _, rfl, _⟩ := h; rfl) | (obtain ⟨_, _, _, _, _, rfl, _⟩ := h; rfl) | (obtain ⟨_, _, _, _, _, _, rfl, _⟩ := h; rfl) | (obtain ⟨_, _, _, _, _, _, _, rfl, _⟩ := h; rfl) | (obtain ⟨_, _, _, _, _, _, _, _, rfl, _⟩ := h; rfl) | (obtain ⟨_, _, _, _, _, _, _, _, _, rfl, _⟩ := h; rfl) | (obtain ⟨_, _, _, _, _, _, _, _, _, _, rfl, _⟩ := h; rfl) | (obtain ⟨_, _, _, _, _, _, _, _, _, _, _, rfl, _⟩ := h; rfl) | (obtain ⟨_, _, _, _, _, _, _, _, _, _, _, _, rfl, _⟩ := h; rfl) | (obtain ⟨_, _, _, _, _, _, _, _, _, _, _, _, _, rfl, _⟩ := h; rfl) | (obtain ⟨_, _, _, _, _, _, _, _, _, _, _, _, _, _, rfl, _⟩ := h; rfl) | (obtain ⟨_, _, _, _, _, _, _, _, _, _, _, _, _, _, _, rfl, _⟩ := h; rfl)) (fun cdv A outer s H vs Q E hr h => ⟨t_is_whole K, PSs.nox ?_, r_is_whole h⟩), g, F.kp, F.bindsN fun _ _ _ _ _ _ us hl => match us, hl with | [_], _ => rfl⟩
  exact (pss_fg (pss_one (ps_ret (pe_and (pe_callB call_isi (by rfl) m_isinstance (by decide +kernel) (pa_cons (pv 0) (pa_cons (pe_bltn (v := .ty "int") (by rfl) m_int (by decide +kernel) rfl) pa_nil))) (pe_one (pe_not (pe_callB call_isi (by rfl) m_isinstance (by decide +kernel) (pa_cons (pv 0) (pa_cons (pe_bltn (v := .ty "bool") (by rfl) m_bool (by decide +kernel) rfl) pa_nil)))))))))
theorem ok_is_row (F : FnP K "is_row" s_is_row f fd) (g : mg "is_row" = some (.ref f)) (F_is_whole : Fn P w K mg base "is_whole" 1 ["thing"] (sp_is_whole K)) (m_isinstance : mg "isinstance" = none) (m_len : mg "len" = none) (m_list : mg "list" = none) (m_zip : mg "zip" = none) (g_MOST_PRIMES : ∃ t, mg "MOST_PRIMES" = some (.int 6 t)) (g_PRIMES : mg "PRIMES" = some (.ref (He.ga K "PRIMES"))) (hP_PRIMES : PrAt K (He.ga K "PRIMES")) : Fn P w K mg base "is_row" 2 ["thing"] (sp_is_row K) := by
  obtain ⟨_, g_MOST_PRIMES⟩ := g_MOST_PRIMES
  refine ⟨f, fd, F.ok (k := 1) sc_is_row (fun vs H Q E h => by first | (obtain ⟨_, _, rfl, _⟩ := h; rfl) | (obtain ⟨_, _, _, rfl, _⟩ := h; rfl) | (obtain ⟨_, _, _, _, rfl, _⟩ := h; rfl) | (obtain ⟨_, _, _, _, _, rfl, _⟩ := h; rfl) | (obtain ⟨_, _, _, _, _, _, rfl, _⟩ := h; rfl) | (obtain ⟨_, _, _, _, _, _, _, rfl, _⟩ := h; rfl) | (obtain ⟨_, _, _, _, _, _, _, _, rfl, _⟩ := h; rfl) | (obtain ⟨_, _, _, _, _, _, _, _, _, rfl, _⟩ := h; rfl) | (obtain ⟨_, _, _, _, _, _, _, _, _, _, rfl, _⟩ := h; rfl) | (obtain ⟨_, _, _, _, _, _, _, _, _, _, _, rfl, _⟩ := h; rfl) | (obtain ⟨_, _, _, _, _, _, _, _, _, _, _, _, rfl, _⟩ := h; rfl) | (obtain ⟨_, _, _, _, _, _, _, _, _, _, _, _, _, rfl, _⟩ := h; rfl) | (obtain ⟨_, _, _, _, _, _, _, _, _, _, _, _, _, _, rfl, _⟩ := h; rfl) | (obtain ⟨_, _, _, _, _, _, _, _, _, _, _, _, _, _, _, rfl, _⟩ := h; rfl)) (fun cdv A outer s H vs Q E hr h => ⟨t_is_row K (He.ga K "PRIMES"), PSs.nox ?_, r_is_row hP_PRIMES h⟩), g, F.kp, F.bindsN fun _ _ _ _ _ _ us hl => match us, hl with | [_], _ => rfl⟩
  exact (pss_fg (pss_cons (ps_if (PW.pt (pw_or (pt_not (pt_val (pe_callB call_isi (by rfl) m_isinstance (by decide +kernel) (pa_cons (pv 0) (pa_cons (pe_bltn (v := .ty "list") (by rfl) m_list (by decide +kernel) rfl) pa_nil))))) (pw_or1 (pt_not (pt_chain op_le op_le pe_int (pe_callB call_len_seq (by rfl) m_len (by decide +kernel) (pa_cons (pv 0) pa_nil)) (pe_glob (by rfl) g_MOST_PRIMES ⟨_, rfl⟩)))))) (pss_one (ps_ret pe_bl)) pss_nil)
      (pss_cons (ps_if (pt_fg (pt_cmpR (op_neD hr.units) (pe_lc (own := [("one", 1)]) (g := (gName 1)) (tt := (tOr (tNot (tB (tCall (sp_is_whole K) [] E0 (tCons (tVar 1) tNil)))) (tTest (tOp (rIn K true) (tVar 1) (tC (.ref (He.ga K "PRIMES"))))))) rfl sc_is_row.nd (pi_list (pv 0)) (blkOk_by (N := N_is_row) (sc := defScope s_is_row) (by decide +kernel)) (fun _ _ _ _ _ => (pg_name (i := 1) sc_is_row.nd rfl (Or.inl rfl))) (fun _ _ _ _ _ => (pts_one (PW.pt (pw_or (pt_not (pt_val (pe_fn F_is_whole (hr.mono (by decide)) (pa_cons (pv 1) pa_nil)))) (pw_or1 (pt_cmpR op_notIn_seq (pv 1) (pe_glob (by rfl) g_PRIMES rfl) (by with_unfolding_all rfl))))))) (fun _ _ _ _ _ => (pv 1))) (pe_lst pa_nil) (nomark _))) (pss_one (ps_ret pe_bl)) pss_nil)
      (pss_one (ps_ret (pe_fg (pe_cmpR (op_eqD hr.units) (pe_fg (pe_lc (own := [("one", 1), ("further", 2)]) (g := (gTup K 2 (gCons (gName 1) (gCons (gName 2) gNil)))) (tt := (tTest (tOp oLe (tVar 2) (tVar 1)))) rfl sc_is_row.nd (pi_zip (by rfl) m_zip (pa_cons (pv 0) (pa_cons (pe_slice sl_list (pv 0) (po_some pe_int) po_none) pa_nil))) (blkOk_by (N := N_is_row) (sc := defScope s_is_row) (by decide +kernel)) (fun _ _ _ _ _ => (pg_tup rfl (pgs_cons (pg_name (i := 1) sc_is_row.nd rfl (Or.inl rfl)) (pgs_cons (pg_name (i := 2) sc_is_row.nd rfl (Or.inl rfl)) pgs_nil)))) (fun _ _ _ _ _ => (pts_one (pt_cmpR op_le (pv 2) (pv 1) (nomark _)))) (fun _ _ _ _ _ => pe_int))) (pe_lst pa_nil) (nomark _))))))))
theorem ok_need_row (F : FnP K "need_row" s_need_row f fd) (g : mg "need_row" = some (.ref f)) (F_is_row : Fn P w K mg base "is_row" 2 ["thing"] (sp_is_row K)) : Fn P w K mg base "need_row" 3 ["row"] (sp_need_row K) := by
  refine ⟨f, fd, F.ok (k := 2) sc_need_row (fun vs H Q E h => by first | (obtain ⟨_, _, rfl, _⟩ := h; rfl) | (obtain ⟨_, _, _, rfl, _⟩ := h; rfl) | (obtain ⟨_, _, _, _, rfl, _⟩ := h; rfl) | (obtain ⟨_, _, _, _, _, rfl, _⟩ := h; rfl) | (obtain ⟨_, _, _, _, _, _, rfl, _⟩ := h; rfl) | (obtain ⟨_, _, _, _, _, _, _, rfl, _⟩ := h; rfl) | (obtain ⟨_, _, _, _, _, _, _, _, rfl, _⟩ := h; rfl) | (obtain ⟨_, _, _, _, _, _, _, _, _, rfl, _⟩ := h; rfl) | (obtain ⟨_, _, _, _, _, _, _, _, _, _, rfl, _⟩ := h; rfl) | (obtain ⟨_, _, _, _, _, _, _, _, _, _, _, rfl, _⟩ := h; rfl) | (obtain ⟨_, _, _, _, _, _, _, _, _, _, _, _, rfl, _⟩ := h; rfl) | (obtain ⟨_, _, _, _, _, _, _, _, _, _, _, _, _, rfl, _⟩ := h; rfl) | (obtain ⟨_, _, _, _, _, _, _, _, _, _, _, _, _, _, rfl, _⟩ := h; rfl) | (obtain ⟨_, _, _, _, _, _, _, _, _, _, _, _, _, _, _, rfl, _⟩ := h; rfl)) (fun cdv A outer s H vs Q E hr h => ⟨t_need_row K, PSs.nox ?_, r_need_row h⟩), g, F.kp, F.bindsN fun _ _ _ _ _ _ us hl => match us, hl with | [_], _ => rfl⟩
  exact (pss_fg (pss_one (ps_if (pt_not (pt_val (pe_fn F_is_row (hr.mono (by decide)) (pa_cons (pv 0) pa_nil)))) (pss_one ps_never) pss_nil)))
theorem ok_made_to (F : FnP K "made_to" s_made_to f fd) (g : mg "made_to" = some (.ref f)) (m_int : mg "int" = none) (m_len : mg "len" = none) : Fn P w K mg base "made_to" 1 ["row", "bound"] (sp_made_to K) := by
  refine ⟨f, fd, F.ok (k := 0) sc_made_to (fun vs H Q E h => by first | (obtain ⟨_, _, rfl, _⟩ := h; rfl) | (obtain ⟨_, _, _, rfl, _⟩ := h; rfl) | (obtain ⟨_, _, _, _, rfl, _⟩ := h; rfl) | (obtain ⟨_, _, _, _, _, rfl, _⟩ := h; rfl) | (obtain ⟨_, _, _, _, _, _, rfl, _⟩ := h; rfl) | (obtain ⟨_, _, _, _, _, _, _, rfl, _⟩ := h; rfl) | (obtain ⟨_, _, _, _, _, _, _, _, rfl, _⟩ := h; rfl) | (obtain ⟨_, _, _, _, _, _, _, _, _, rfl, _⟩ := h; rfl) | (obtain ⟨_, _, _, _, _, _, _, _, _, _, rfl, _⟩ := h; rfl) | (obtain ⟨_, _, _, _, _, _, _, _, _, _, _, rfl, _⟩ := h; rfl) | (obtain ⟨_, _, _, _, _, _, _, _, _, _, _, _, rfl, _⟩ := h; rfl) | (obtain ⟨_, _, _, _, _, _, _, _, _, _, _, _, _, rfl, _⟩ := h; rfl) | (obtain ⟨_, _, _, _, _, _, _, _, _, _, _, _, _, _, rfl, _⟩ := h; rfl) | (obtain ⟨_, _, _, _, _, _, _, _, _, _, _, _, _, _, _, rfl, _⟩ := h; rfl)) (fun cdv A outer s H vs Q E hr h => ⟨t_made_to K, PSs.nox ?_, r_made_to h⟩), g, F.kp, F.bindsN fun _ _ _ _ _ _ us hl => match us, hl with | [_, _], _ => rfl⟩
  exact (pss_fg (pss_cons (ps_set (i := 2) sc_made_to.nd rfl (Or.inl rfl) (pe_fg (pe_op op_rep (pe_lst (pa_cons pe_int pa_nil)) (pe_callTy call_int1 (by rfl) m_int (by decide +kernel) (pa_cons (pe_cmpR op_gt (pv 1) pe_int (nomark _)) pa_nil)))))
      (pss_cons (ps_for PassesOwn.never rfl (pi_list (pv 0)) (pg_name (i := 3) sc_made_to.nd rfl (Or.inl rfl)) (pss_cons (ps_set (i := 4) sc_made_to.nd rfl (Or.inl rfl) pe_int)
      (pss_one (ps_while PassesOwn.never (pt_cmpR op_lt (pv 4) (pe_callB call_len_seq (by rfl) m_len (by decide +kernel) (pa_cons (pv 2) pa_nil)) (nomark _)) (pss_cons (ps_if (pt_cmpR op_le (pe_op op_mulW (pe_ix ix_list (pv 2) (pv 4) (fun _ _ => rfl)) (pv 3)) (pv 1) (nomark _)) (pss_one (ps_expr (pe_bm PySem.F.plainAttrs_list PySem.F.slot_list_append PySem.F.type_list_append mt_append (pv 2) (pa_cons (pe_op op_mulW (pe_ix ix_list (pv 2) (pv 4) (fun _ _ => rfl)) (pv 3)) pa_nil)))) pss_nil)
      (pss_one (ps_aug (i := 4) sc_made_to.nd rfl (Or.inl rfl) pe_int ip_add)))))))
      (pss_one (ps_ret (pv 2))))))
theorem ok_grown (F : FnP K "grown" s_grown f fd) (g : mg "grown" = some (.ref f))  : Fn P w K mg base "grown" 1 ["number", "prime", "bound"] (sp_grown K) := by
  refine ⟨f, fd, F.ok (k := 0) sc_grown (fun vs H Q E h => by first | (obtain ⟨_, _, rfl, _⟩ := h; rfl) | (obtain ⟨_, _, _, rfl, _⟩ := h; rfl) | (obtain ⟨_, _, _, _, rfl, _⟩ := h; rfl) | (obtain ⟨_, _, _, _, _, rfl, _⟩ := h; rfl) | (obtain ⟨_, _, _, _, _, _, rfl, _⟩ := h; rfl) | (obtain ⟨_, _, _, _, _, _, _, rfl, _⟩ := h; rfl) | (obtain ⟨_, _, _, _, _, _, _, _, rfl, _⟩ := h; rfl) | (obtain ⟨_, _, _, _, _, _, _, _, _, rfl, _⟩ := h; rfl) | (obtain ⟨_, _, _, _, _, _, _, _, _, _, rfl, _⟩ := h; rfl) | (obtain ⟨_, _, _, _, _, _, _, _, _, _, _, rfl, _⟩ := h; rfl) | (obtain ⟨_, _, _, _, _, _, _, _, _, _, _, _, rfl, _⟩ := h; rfl) | (obtain ⟨_, _, _, _, _, _, _, _, _, _, _, _, _, rfl, _⟩ := h; rfl) | (obtain ⟨_, _, _, _, _, _, _, _, _, _, _, _, _, _, rfl, _⟩ := h; rfl) | (obtain ⟨_, _, _, _, _, _, _, _, _, _, _, _, _, _, _, rfl, _⟩ := h; rfl)) (fun cdv A outer s H vs Q E hr h => ⟨t_grown K, PSs.nox ?_, r_grown h⟩), g, F.kp, F.bindsN fun _ _ _ _ _ _ us hl => match us, hl with | [_, _, _], _ => rfl⟩
  exact (pss_fg (pss_cons (ps_while PassesOwn.never (pt_cmpR op_le (pe_op op_mulW (pv 0) (pv 1)) (pv 2) (nomark _)) (pss_one (ps_aug (i := 0) sc_grown.nd rfl (Or.inl rfl) (pv 1) ip_mul)))
      (pss_one (ps_ret (pv 0)))))
theorem ok_next_one (F : FnP K "next_one" s_next_one f fd) (g : mg "next_one" = some (.ref f)) (F_need_row : Fn P w K mg base "need_row" 3 ["row"] (sp_need_row K)) (F_grown : Fn P w K mg base "grown" 1 ["number", "prime", "bound"] (sp_grown K)) (F_made_to : Fn P w K mg base "made_to" 1 ["row", "bound"] (sp_made_to K)) (m_min : mg "min" = none) : Fn P w K mg base "next_one" 4 ["row", "number"] (sp_next_one K) := by
  refine ⟨f, fd, F.ok (k := 3) sc_next_one (fun vs H Q E h => by first | (obtain ⟨_, _, rfl, _⟩ := h; rfl) | (obtain ⟨_, _, _, rfl, _⟩ := h; rfl) | (obtain ⟨_, _, _, _, rfl, _⟩ := h; rfl) | (obtain ⟨_, _, _, _, _, rfl, _⟩ := h; rfl) | (obtain ⟨_, _, _, _, _, _, rfl, _⟩ := h; rfl) | (obtain ⟨_, _, _, _, _, _, _, rfl, _⟩ := h; rfl) | (obtain ⟨_, _, _, _, _, _, _, _, rfl, _⟩ := h; rfl) | (obtain ⟨_, _, _, _, _, _, _, _, _, rfl, _⟩ := h; rfl) | (obtain ⟨_, _, _, _, _, _, _, _, _, _, rfl, _⟩ := h; rfl) | (obtain ⟨_, _, _, _, _, _, _, _, _, _, _, rfl, _⟩ := h; rfl) | (obtain ⟨_, _, _, _, _, _, _, _, _, _, _, _, rfl, _⟩ := h; rfl) | (obtain ⟨_, _, _, _, _, _, _, _, _, _, _, _, _, rfl, _⟩ := h; rfl) | (obtain ⟨_, _, _, _, _, _, _, _, _, _, _, _, _, _, rfl, _⟩ := h; rfl) | (obtain ⟨_, _, _, _, _, _, _, _, _, _, _, _, _, _, _, rfl, _⟩ := h; rfl)) (fun cdv A outer s H vs Q E hr h => ⟨t_next_one K, PSs.nox ?_, r_next_one h⟩), g, F.kp, F.bindsN fun _ _ _ _ _ _ us hl => match us, hl with | [_, _], _ => rfl⟩
  exact (pss_fg (pss_cons (ps_expr (pe_fn F_need_row (hr.mono (by decide)) (pa_cons (pv 0) pa_nil)))
      (pss_cons (ps_if (pt_cmpR op_eq (pv 1) pe_int (nomark _)) (pss_one (ps_ret pe_int)) pss_nil)
      (pss_cons (ps_set (i := 2) sc_next_one.nd rfl (Or.inl rfl) (pe_op op_mulW (pe_fn F_grown (hr.mono (by decide)) (pa_cons pe_int (pa_cons (pe_ix ix_list (pv 0) pe_int (fun _ _ => rfl)) (pa_cons (pv 1) pa_nil)))) (pe_ix ix_list (pv 0) pe_int (fun _ _ => rfl))))
      (pss_cons (ps_for PassesOwn.never rfl (pi_list (pe_fg (pe_fn F_made_to (hr.mono (by decide)) (pa_cons (pe_slice sl_list (pv 0) (po_some pe_int) po_none) (pa_cons (pv 2) pa_nil))))) (pg_name (i := 3) sc_next_one.nd rfl (Or.inl rfl)) (pss_cons (ps_if (pt_cmpR op_le (pv 3) (pv 1) (nomark _)) (pss_one (ps_set (i := 3) sc_next_one.nd rfl (Or.inl rfl) (pe_op op_mulW (pe_fn F_grown (hr.mono (by decide)) (pa_cons (pv 3) (pa_cons (pe_ix ix_list (pv 0) pe_int (fun _ _ => rfl)) (pa_cons (pv 1) pa_nil)))) (pe_ix ix_list (pv 0) pe_int (fun _ _ => rfl))))) pss_nil)
      (pss_one (ps_set (i := 2) sc_next_one.nd rfl (Or.inl rfl) (pe_callB (call_min2 rfl) (by rfl) m_min (by decide +kernel) (pa_cons (pv 2) (pa_cons (pv 3) pa_nil)))))))
      (pss_one (ps_ret (pv 2))))))))
theorem ok_last_one (F : FnP K "last_one" s_last_one f fd) (g : mg "last_one" = some (.ref f)) (F_need_row : Fn P w K mg base "need_row" 3 ["row"] (sp_need_row K)) (F_made_to : Fn P w K mg base "made_to" 1 ["row", "bound"] (sp_made_to K)) (F_grown : Fn P w K mg base "grown" 1 ["number", "prime", "bound"] (sp_grown K)) (m_max : mg "max" = none) : Fn P w K mg base "last_one" 4 ["row", "number"] (sp_last_one K) := by
  refine ⟨f, fd, F.ok (k := 3) sc_last_one (fun vs H Q E h => by first | (obtain ⟨_, _, rfl, _⟩ := h; rfl) | (obtain ⟨_, _, _, rfl, _⟩ := h; rfl) | (obtain ⟨_, _, _, _, rfl, _⟩ := h; rfl) | (obtain ⟨_, _, _, _, _, rfl, _⟩ := h; rfl) | (obtain ⟨_, _, _, _, _, _, rfl, _⟩ := h; rfl) | (obtain ⟨_, _, _, _, _, _, _, rfl, _⟩ := h; rfl) | (obtain ⟨_, _, _, _, _, _, _, _, rfl, _⟩ := h; rfl) | (obtain ⟨_, _, _, _, _, _, _, _, _, rfl, _⟩ := h; rfl) | (obtain ⟨_, _, _, _, _, _, _, _, _, _, rfl, _⟩ := h; rfl) | (obtain ⟨_, _, _, _, _, _, _, _, _, _, _, rfl, _⟩ := h; rfl) | (obtain ⟨_, _, _, _, _, _, _, _, _, _, _, _, rfl, _⟩ := h; rfl) | (obtain ⟨_, _, _, _, _, _, _, _, _, _, _, _, _, rfl, _⟩ := h; rfl) | (obtain ⟨_, _, _, _, _, _, _, _, _, _, _, _, _, _, rfl, _⟩ := h; rfl) | (obtain ⟨_, _, _, _, _, _, _, _, _, _, _, _, _, _, _, rfl, _⟩ := h; rfl)) (fun cdv A outer s H vs Q E hr h => ⟨t_last_one K, PSs.nox ?_, r_last_one h⟩), g, F.kp, F.bindsN fun _ _ _ _ _ _ us hl => match us, hl with | [_, _], _ => rfl⟩
  exact (pss_fg (pss_cons (ps_expr (pe_fn F_need_row (hr.mono (by decide)) (pa_cons (pv 0) pa_nil)))
      (pss_cons (ps_if (pt_cmpR op_lt (pv 1) pe_int (nomark _)) (pss_one (ps_ret pe_non)) pss_nil)
      (pss_one (ps_ret (pe_fg (pe_callB (cr_max rfl) (by rfl) m_max (by decide +kernel) (pa_cons (pe_fg (pe_lc (own := [("rest", 2)]) (g := (gName 2)) (tt := tYes) rfl sc_last_one.nd (pi_list (pe_fg (pe_fn F_made_to (hr.mono (by decide)) (pa_cons (pe_slice sl_list (pv 0) (po_some pe_int) po_none) (pa_cons (pe_op op_sub (pv 1) pe_int) pa_nil))))) (blkOk_by (N := N_last_one) (sc := defScope s_last_one) (by decide +kernel)) (fun _ _ _ _ _ => (pg_name (i := 2) sc_last_one.nd rfl (Or.inl rfl))) (fun _ _ _ _ _ => pts_nil) (fun _ _ _ _ _ => (pe_fn F_grown (hr.mono (by decide)) (pa_cons (pv 2) (pa_cons (pe_ix ix_list (pv 0) pe_int (fun _ _ => rfl)) (pa_cons (pe_op op_sub (pv 1) pe_int) pa_nil))))))) pa_nil))))))))
theorem ok_nearest (F : FnP K "nearest" s_nearest f fd) (g : mg "nearest" = some (.ref f)) (F_next_one : Fn P w K mg base "next_one" 4 ["row", "number"] (sp_next_one K)) (F_last_one : Fn P w K mg base "last_one" 4 ["row", "number"] (sp_last_one K)) : Fn P w K mg base "nearest" 5 ["row", "number"] (sp_nearest K) := by
  refine ⟨f, fd, F.ok (k := 4) sc_nearest (fun vs H Q E h => by first | (obtain ⟨_, _, rfl, _⟩ := h; rfl) | (obtain ⟨_, _, _, rfl, _⟩ := h; rfl) | (obtain ⟨_, _, _, _, rfl, _⟩ := h; rfl) | (obtain ⟨_, _, _, _, _, rfl, _⟩ := h; rfl) | (obtain ⟨_, _, _, _, _, _, rfl, _⟩ := h; rfl) | (obtain ⟨_, _, _, _, _, _, _, rfl, _⟩ := h; rfl) | (obtain ⟨_, _, _, _, _, _, _, _, rfl, _⟩ := h; rfl) | (obtain ⟨_, _, _, _, _, _, _, _, _, rfl, _⟩ := h; rfl) | (obtain ⟨_, _, _, _, _, _, _, _, _, _, rfl, _⟩ := h; rfl) | (obtain ⟨_, _, _, _, _, _, _, _, _, _, _, rfl, _⟩ := h; rfl) | (obtain ⟨_, _, _, _, _, _, _, _, _, _, _, _, rfl, _⟩ := h; rfl) | (obtain ⟨_, _, _, _, _, _, _, _, _, _, _, _, _, rfl, _⟩ := h; rfl) | (obtain ⟨_, _, _, _, _, _, _, _, _, _, _, _, _, _, rfl, _⟩ := h; rfl) | (obtain ⟨_, _, _, _, _, _, _, _, _, _, _, _, _, _, _, rfl, _⟩ := h; rfl)) (fun cdv A outer s H vs Q E hr h => ⟨t_nearest K, PSs.nox ?_, r_nearest h⟩), g, F.kp, F.bindsN fun _ _ _ _ _ _ us hl => match us, hl with | [_, _], _ => rfl⟩
  exact (pss_fg (pss_cons (ps_set (i := 2) sc_nearest.nd rfl (Or.inl rfl) (pe_fn F_next_one (hr.mono (by decide)) (pa_cons (pv 0) (pa_cons (pe_op op_sub (pv 1) pe_int) pa_nil))))
      (pss_cons (ps_set (i := 3) sc_nearest.nd rfl (Or.inl rfl) (pe_fn F_last_one (hr.mono (by decide)) (pa_cons (pv 0) (pa_cons (pe_op op_add (pv 1) pe_int) pa_nil))))
      (pss_cons (ps_if (pt_cmpR op_le (pe_op op_sub (pv 1) (pv 3)) (pe_op op_sub (pv 2) (pv 1)) (nomark _)) (pss_one (ps_ret (pv 3))) pss_nil)
      (pss_one (ps_ret (pv 2)))))))
theorem ok_law_whole (F : FnP K "_law_whole" s_law_whole f fd) (g : mg "_law_whole" = some (.ref f)) (m_bool : mg "bool" = none) (m_int : mg "int" = none) (m_isinstance : mg "isinstance" = none) : Fn P w K mg base "_law_whole" 1 ["found", "due"] (sp_law_whole K) := by
  refine ⟨f, fd, F.ok (k := 0) sc_law_whole (fun vs H Q E h => by first | (obtain ⟨_, _, rfl, _⟩ := h; rfl) | (obtain ⟨_, _, _, rfl, _⟩ := h; rfl) | (obtain ⟨_, _, _, _, rfl, _⟩ := h; rfl) | (obtain ⟨_, _, _, _, _, rfl, _⟩ := h; rfl) | (obtain ⟨_, _, _, _, _, _, rfl, _⟩ := h; rfl) | (obtain ⟨_, _, _, _, _, _, _, rfl, _⟩ := h; rfl) | (obtain ⟨_, _, _, _, _, _, _, _, rfl, _⟩ := h; rfl) | (obtain ⟨_, _, _, _, _, _, _, _, _, rfl, _⟩ := h; rfl) | (obtain ⟨_, _, _, _, _, _, _, _, _, _, rfl, _⟩ := h; rfl) | (obtain ⟨_, _, _, _, _, _, _, _, _, _, _, rfl, _⟩ := h; rfl) | (obtain ⟨_, _, _, _, _, _, _, _, _, _, _, _, rfl, _⟩ := h; rfl) | (obtain ⟨_, _, _, _, _, _, _, _, _, _, _, _, _, rfl, _⟩ := h; rfl) | (obtain ⟨_, _, _, _, _, _, _, _, _, _, _, _, _, _, rfl, _⟩ := h; rfl) | (obtain ⟨_, _, _, _, _, _, _, _, _, _, _, _, _, _, _, rfl, _⟩ := h; rfl)) (fun cdv A outer s H vs Q E hr h => ⟨t_law_whole K, PSs.nox ?_, r_law_whole h⟩), g, F.kp, F.bindsN fun _ _ _ _ _ _ us hl => match us, hl with | [_, _], _ => rfl⟩
  exact (pss_fg (pss_one (ps_ret (pe_and (pe_callB call_isi (by rfl) m_isinstance (by decide +kernel) (pa_cons (pv 0) (pa_cons (pe_bltn (v := .ty "int") (by rfl) m_int (by decide +kernel) rfl) pa_nil))) (pe_and (pe_not (pe_callB call_isi (by rfl) m_isinstance (by decide +kernel) (pa_cons (pv 0) (pa_cons (pe_bltn (v := .ty "bool") (by rfl) m_bool (by decide +kernel) rfl) pa_nil)))) (pe_one (pe_cmpR op_eq (pv 0) (pv 1) (nomark _))))))))
theorem ok_law (F : FnP K "law" s_law f fd) (F_law_cells : Fn P w K mg base "_law_cells" 1 ["script", "many"] (sp_law_cells K)) (F_law_hand : Fn P w K mg base "_law_hand" 1 ["cell", "k"] (sp_law_hand K)) (F_law_row : Fn P w K mg base "_law_row" 2 ["hand"] (sp_law_row K)) (F_law_most : Fn P w K mg base "_law_most" 1 ["row"] (sp_law_most K)) (F_law_bound : Fn P w K mg base "_law_bound" 2 ["hand", "row", "few", "most"] (sp_law_bound K)) (F_law_made28 : Fn P w K mg base "_law_made" 1 ["row", "bound"] (sp_law_made28 K)) (F_law_below : Fn P w K mg base "_law_below" 1 ["made", "number"] (sp_law_below K)) (F_law_due : Fn P w K mg base "_law_due" 2 ["made", "number"] (sp_law_due K)) (F_nearest : Fn P w K mg base "nearest" 5 ["row", "number"] (sp_nearest K)) (F_law_whole : Fn P w K mg base "_law_whole" 1 ["found", "due"] (sp_law_whole K)) (m_list : mg "list" = none) (m_max : mg "max" = none) (m_min : mg "min" = none) (m_range : mg "range" = none) : FnOk P w K mg base CX0 6 f fd ["script"] (sp_law K) := by
  refine F.ok (k := 5) sc_law (fun vs H Q E h => by first | (obtain ⟨_, _, rfl, _⟩ := h; rfl) | (obtain ⟨_, _, _, rfl, _⟩ := h; rfl) | (obtain ⟨_, _, _, _, rfl, _⟩ := h; rfl) | (obtain ⟨_, _, _, _, _, rfl, _⟩ := h; rfl) | (obtain ⟨_, _, _, _, _, _, rfl, _⟩ := h; rfl) | (obtain ⟨_, _, _, _, _, _, _, rfl, _⟩ := h; rfl) | (obtain ⟨_, _, _, _, _, _, _, _, rfl, _⟩ := h; rfl) | (obtain ⟨_, _, _, _, _, _, _, _, _, rfl, _⟩ := h; rfl) | (obtain ⟨_, _, _, _, _, _, _, _, _, _, rfl, _⟩ := h; rfl) | (obtain ⟨_, _, _, _, _, _, _, _, _, _, _, rfl, _⟩ := h; rfl) | (obtain ⟨_, _, _, _, _, _, _, _, _, _, _, _, rfl, _⟩ := h; rfl) | (obtain ⟨_, _, _, _, _, _, _, _, _, _, _, _, _, rfl, _⟩ := h; rfl) | (obtain ⟨_, _, _, _, _, _, _, _, _, _, _, _, _, _, rfl, _⟩ := h; rfl) | (obtain ⟨_, _, _, _, _, _, _, _, _, _, _, _, _, _, _, rfl, _⟩ := h; rfl)) (fun cdv A outer s H vs Q E hr h => ⟨t_law K, PSs.nox ?_, r_law h⟩)
  exact (pss_fg (pss_cons (ps_for PassesOwn.never rfl (pi_list (pe_fn F_law_cells (hr.mono (by decide)) (pa_cons (pv 0) (pa_cons pe_int pa_nil)))) (pg_tup rfl (pgs_cons (pg_name (i := 1) sc_law.nd rfl (Or.inl rfl)) (pgs_cons (pg_name (i := 2) sc_law.nd rfl (Or.inl rfl)) pgs_nil))) (pss_cons (ps_set (i := 3) sc_law.nd rfl (Or.inl rfl) (pe_fn F_law_hand (hr.mono (by decide)) (pa_cons (pv 2) (pa_cons (pv 1) pa_nil))))
      (pss_cons (ps_set (i := 4) sc_law.nd rfl (Or.inl rfl) (pe_fn F_law_row (hr.mono (by decide)) (pa_cons (pv 3) pa_nil)))
      (pss_cons (ps_set (i := 5) sc_law.nd rfl (Or.inl rfl) (pe_fn F_law_most (hr.mono (by decide)) (pa_cons (pv 4) pa_nil)))
      (pss_cons (ps_set (i := 6) sc_law.nd rfl (Or.inl rfl) (pe_callB (call_max2 rfl) (by rfl) m_max (by decide +kernel) (pa_cons pe_int (pa_cons (pe_fn F_law_bound (hr.mono (by decide)) (pa_cons (pv 3) (pa_cons (pv 4) (pa_cons pe_int (pa_cons (pv 5) pa_nil))))) pa_nil))))
      (pss_cons (ps_set (i := 7) sc_law.nd rfl (Or.inl rfl) (pe_fn F_law_made28 (hr.mono (by decide)) (pa_cons (pv 4) (pa_cons (pe_op op_mulW (pe_op op_mulW (pv 6) (pe_ix ix_list (pv 4) pe_int (fun _ _ => rfl))) (pe_ix ix_list (pv 4) pe_int (fun _ _ => rfl))) pa_nil))))
      (pss_cons (ps_set (i := 8) sc_law.nd rfl (Or.inl rfl) (pe_fn F_law_below (hr.mono (by decide)) (pa_cons (pv 7) (pa_cons (pv 6) pa_nil))))
      (pss_cons (ps_set (i := 9) sc_law.nd rfl (Or.inl rfl) (pe_op op_fdivW (pe_op op_add (pe_ix ix_list (pv 7) (pe_op op_sub (pv 8) pe_int) (fun _ _ => rfl)) (pe_ix ix_list (pv 7) (pv 8) (fun _ _ => rfl))) pe_int))
      (pss_cons (ps_set (i := 10) sc_law.nd rfl (Or.inl rfl) (pe_callTy call_list_of (by rfl) m_list (by decide +kernel) (pa_cons (pv 4) pa_nil)))
      (pss_one (ps_for PassesOwn.never rfl (pi_list (pe_lst (pa_cons (pv 6) (pa_cons (pe_callB (call_min2 rfl) (by rfl) m_min (by decide +kernel) (pa_cons (pv 5) (pa_cons (pv 9) pa_nil))) (pa_cons (pe_callB (call_min2 rfl) (by rfl) m_min (by decide +kernel) (pa_cons (pv 5) (pa_cons (pe_op op_add (pv 9) pe_int) pa_nil))) pa_nil))))) (pg_name (i := 11) sc_law.nd rfl (Or.inl rfl)) (pss_cons (ps_set (i := 12) sc_law.nd rfl (Or.inl rfl) (pe_fn F_law_due (hr.mono (by decide)) (pa_cons (pv 7) (pa_cons (pv 11) pa_nil))))
      (pss_one (ps_for PassesOwn.never rfl (pi_range1 (by rfl) m_range (pa_cons pe_int pa_nil)) (pg_name (i := 13) sc_law.nd rfl (Or.inl rfl)) (pss_one (ps_if (PW.pt (pw_or (pt_not (pt_val (pe_fn F_law_whole (hr.mono (by decide)) (pa_cons (pe_fn F_nearest (hr.mono (by decide)) (pa_cons (pv 10) (pa_cons (pv 11) pa_nil))) (pa_cons (pv 12) pa_nil))))) (pw_or1 (pt_cmpR (op_neD hr.units) (pv 10) (pv 4) (nomark _))))) (pss_one (ps_ret pe_bl)) pss_nil))))))))))))))))
      (pss_one (ps_ret (pe_and (pe_cmpR op_eq (pe_fn F_nearest (hr.mono (by decide)) (pa_cons (pe_lst (pa_cons pe_int pa_nil)) (pa_cons (pe_op op_mulW pe_int (pe_op op_pow pe_int pe_int)) pa_nil))) (pe_op op_pow pe_int pe_int) (nomark _)) (pe_one (pe_cmpR op_eq (pe_fn F_nearest (hr.mono (by decide)) (pa_cons (pe_lst (pa_cons pe_int (pa_cons pe_int (pa_cons pe_int pa_nil)))) (pa_cons (pe_op op_pow pe_int pe_int) pa_nil))) (pe_op op_pow pe_int pe_int) (nomark _))))))))
end
/-! ### what the top has left -/
def d_law_cells : He.DefD := ⟨("_law_cells", none), "_law_cells", "_law_cells", defArgs s_law_cells, defBody s_law_cells, defScope s_law_cells, [], []⟩
def d_law_hand : He.DefD := ⟨("_law_hand", none), "_law_hand", "_law_hand", defArgs s_law_hand, defBody s_law_hand, defScope s_law_hand, [], []⟩
def d_law_draw : He.DefD := ⟨("_law_draw", none), "_law_draw", "_law_draw", defArgs s_law_draw, defBody s_law_draw, defScope s_law_draw, [], []⟩
def d_law_row : He.DefD := ⟨("_law_row", none), "_law_row", "_law_row", defArgs s_law_row, defBody s_law_row, defScope s_law_row, [], []⟩
def d_law_most : He.DefD := ⟨("_law_most", none), "_law_most", "_law_most", defArgs s_law_most, defBody s_law_most, defScope s_law_most, [], []⟩
def d_law_made28 : He.DefD := ⟨("_law_made", none), "_law_made", "_law_made", defArgs s_law_made28, defBody s_law_made28, defScope s_law_made28, [], []⟩
def d_law_below : He.DefD := ⟨("_law_below", none), "_law_below", "_law_below", defArgs s_law_below, defBody s_law_below, defScope s_law_below, [], []⟩
def d_law_bound : He.DefD := ⟨("_law_bound", none), "_law_bound", "_law_bound", defArgs s_law_bound, defBody s_law_bound, defScope s_law_bound, [], []⟩
def d_law_due : He.DefD := ⟨("_law_due", none), "_law_due", "_law_due", defArgs s_law_due, defBody s_law_due, defScope s_law_due, [], []⟩
def d_is_whole : He.DefD := ⟨("is_whole", none), "is_whole", "is_whole", defArgs s_is_whole, defBody s_is_whole, defScope s_is_whole, [], []⟩
def d_is_row : He.DefD := ⟨("is_row", none), "is_row", "is_row", defArgs s_is_row, defBody s_is_row, defScope s_is_row, [], []⟩
def d_need_row : He.DefD := ⟨("need_row", none), "need_row", "need_row", defArgs s_need_row, defBody s_need_row, defScope s_need_row, [], []⟩
def d_made_to : He.DefD := ⟨("made_to", none), "made_to", "made_to", defArgs s_made_to, defBody s_made_to, defScope s_made_to, [], []⟩
def d_grown : He.DefD := ⟨("grown", none), "grown", "grown", defArgs s_grown, defBody s_grown, defScope s_grown, [], []⟩
def d_next_one : He.DefD := ⟨("next_one", none), "next_one", "next_one", defArgs s_next_one, defBody s_next_one, defScope s_next_one, [], []⟩
def d_last_one : He.DefD := ⟨("last_one", none), "last_one", "last_one", defArgs s_last_one, defBody s_last_one, defScope s_last_one, [], []⟩
def d_nearest : He.DefD := ⟨("nearest", none), "nearest", "nearest", defArgs s_nearest, defBody s_nearest, defScope s_nearest, [], []⟩
def d_law_whole : He.DefD := ⟨("_law_whole", none), "_law_whole", "_law_whole", defArgs s_law_whole, defBody s_law_whole, defScope s_law_whole, [], []⟩
def d_law : He.DefD := ⟨("law", none), "law", "law", defArgs s_law, defBody s_law, defScope s_law, [], []⟩
def fn : List He.DefD := [d_law_cells, d_law_hand, d_law_draw, d_law_row, d_law_most, d_law_made28, d_law_below, d_law_bound, d_law_due, d_is_whole, d_is_row, d_need_row, d_made_to, d_grown, d_next_one, d_last_one, d_nearest, d_law_whole, d_law]
def fa : List He.Fa := [(.glo "_law_cells" : He.Fa), (.glo "_law_hand" : He.Fa), (.glo "_law_draw" : He.Fa), (.glo "_law_row" : He.Fa), (.glo "_law_most" : He.Fa), (.glo "_law_made" : He.Fa), (.glo "_law_below" : He.Fa), (.glo "_law_bound" : He.Fa), (.glo "_law_due" : He.Fa), (.glo "is_whole" : He.Fa), (.glo "is_row" : He.Fa), (.glo "need_row" : He.Fa), (.glo "made_to" : He.Fa), (.glo "grown" : He.Fa), (.glo "next_one" : He.Fa), (.glo "last_one" : He.Fa), (.glo "nearest" : He.Fa), (.glo "_law_whole" : He.Fa), (.glo "law" : He.Fa), (.free "bool" : He.Fa), (.free "enumerate" : He.Fa), (.free "int" : He.Fa), (.free "isinstance" : He.Fa), (.free "len" : He.Fa), (.free "list" : He.Fa), (.free "max" : He.Fa), (.free "min" : He.Fa), (.free "range" : He.Fa), (.free "sorted" : He.Fa), (.free "zip" : He.Fa), (.int "MOST_PRIMES" 6 : He.Fa), (.glo "PRIMES" : He.Fa)]
def ls : List (Str × List He.Dv) := [("PRIMES", [.int 2, .int 3, .int 5, .int 7, .int 11, .int 13, .int 17, .int 19, .int 23, .int 29, .int 31, .int 37, .int 41, .int 43, .int 47, .int 53, .int 59, .int 61, .int 67, .int 71, .int 73, .int 79, .int 83, .int 89, .int 97])]
abbrev R : PySem.W.OpenRow := PySem.W.OpenLaw.row PySem.Challenge.rw_smallparts_k28_nearest_of_great_numbers
abbrev hk : PySem.W.Hook := hookL 4 fa fn ls
def ob (s : PySem.W.SharedT) : AlL := obsL 4 fa fn ls (HandSHeadRun.getT s)
theorem ob_eq (s : PySem.W.SharedT) : ob s = hk.obs s.abs := obsL_eq (HandSHeadRun.getT_eq s)
def loose : List Str := [("PartError" : Str), ("NoPrimes" : Str), ("PRIMES" : Str), ("MOST_PRIMES" : Str), ("is_whole" : Str), ("is_row" : Str), ("need_row" : Str), ("made_to" : Str), ("grown" : Str), ("next_one" : Str), ("last_one" : Str), ("nearest" : Str), ("_law_hand" : Str), ("_law_draw" : Str), ("_law_cells" : Str), ("_law_row" : Str), ("_law_most" : Str), ("_law_made" : Str), ("_law_bound" : Str), ("_law_whole" : Str), ("_law_below" : Str), ("_law_due" : Str)]
theorem run (w : World) : HandSHeadRun.RunEq R (PySem.W.view R.prog [28]) hk ob 4000 loose w := by
  intro os
  kernel_rfl
theorem facts {P : Program} {w : World} {K : PySem.W.Frag} {h : Heap} {mg : Str → Option Value} {f : Addr} (X : K.In h) (G : h.Ns mainGlobals mg) (hfa : mg ("law" : Str) = some (.ref f)) (c : He.SaysD fa fn K) (cl : (ls.all fun q => He.lstB K q.1 q.2) = true) :
    ∃ fd : FuncData, (∀ (s : Shared) (v : Value), BindsTo s fd ⟨[v], []⟩ [("script", v)]) ∧ ∀ base : Heap, K.In base → base.Ns mainGlobals mg → FnOk P w K mg base CX0 6 f fd ["script"] (sp_law K) := by
  obtain ⟨fd_law_cells, H_law_cells⟩ := c.def_ 0 (d := d_law_cells) rfl
  obtain ⟨fd_law_hand, H_law_hand⟩ := c.def_ 1 (d := d_law_hand) rfl
  obtain ⟨fd_law_draw, H_law_draw⟩ := c.def_ 2 (d := d_law_draw) rfl
  obtain ⟨fd_law_row, H_law_row⟩ := c.def_ 3 (d := d_law_row) rfl
  obtain ⟨fd_law_most, H_law_most⟩ := c.def_ 4 (d := d_law_most) rfl
  obtain ⟨fd_law_made28, H_law_made28⟩ := c.def_ 5 (d := d_law_made28) rfl
  obtain ⟨fd_law_below, H_law_below⟩ := c.def_ 6 (d := d_law_below) rfl
  obtain ⟨fd_law_bound, H_law_bound⟩ := c.def_ 7 (d := d_law_bound) rfl
  obtain ⟨fd_law_due, H_law_due⟩ := c.def_ 8 (d := d_law_due) rfl
  obtain ⟨fd_is_whole, H_is_whole⟩ := c.def_ 9 (d := d_is_whole) rfl
  obtain ⟨fd_is_row, H_is_row⟩ := c.def_ 10 (d := d_is_row) rfl
  obtain ⟨fd_need_row, H_need_row⟩ := c.def_ 11 (d := d_need_row) rfl
  obtain ⟨fd_made_to, H_made_to⟩ := c.def_ 12 (d := d_made_to) rfl
  obtain ⟨fd_grown, H_grown⟩ := c.def_ 13 (d := d_grown) rfl
  obtain ⟨fd_next_one, H_next_one⟩ := c.def_ 14 (d := d_next_one) rfl
  obtain ⟨fd_last_one, H_last_one⟩ := c.def_ 15 (d := d_last_one) rfl
  obtain ⟨fd_nearest, H_nearest⟩ := c.def_ 16 (d := d_nearest) rfl
  obtain ⟨fd_law_whole, H_law_whole⟩ := c.def_ 17 (d := d_law_whole) rfl
  obtain ⟨fd_law, H_law⟩ := c.def_ 18 (d := d_law) rfl
  have m_bool := He.free_ok X G (c.fact 19 (f := .free "bool") rfl)
  have m_enumerate := He.free_ok X G (c.fact 20 (f := .free "enumerate") rfl)
  have m_int := He.free_ok X G (c.fact 21 (f := .free "int") rfl)
  have m_isinstance := He.free_ok X G (c.fact 22 (f := .free "isinstance") rfl)
  have m_len := He.free_ok X G (c.fact 23 (f := .free "len") rfl)
  have m_list := He.free_ok X G (c.fact 24 (f := .free "list") rfl)
  have m_max := He.free_ok X G (c.fact 25 (f := .free "max") rfl)
  have m_min := He.free_ok X G (c.fact 26 (f := .free "min") rfl)
  have m_range := He.free_ok X G (c.fact 27 (f := .free "range") rfl)
  have m_sorted := He.free_ok X G (c.fact 28 (f := .free "sorted") rfl)
  have m_zip := He.free_ok X G (c.fact 29 (f := .free "zip") rfl)
  have g_MOST_PRIMES := He.int_ok X G (c.fact 30 (f := .int "MOST_PRIMES" 6) rfl)
  have g_PRIMES := He.glo_ok X G (c.fact 31 (f := .glo "PRIMES") rfl)
  have hP_PRIMES : PrAt K (He.ga K "PRIMES") := fun H => He.lstB_ok (lst_fact cl 0 rfl) H
  have g_law_cells := He.glo_ok X G (c.fact 0 (f := .glo "_law_cells") rfl)
  have g_law_hand := He.glo_ok X G (c.fact 1 (f := .glo "_law_hand") rfl)
  have g_law_draw := He.glo_ok X G (c.fact 2 (f := .glo "_law_draw") rfl)
  have g_law_row := He.glo_ok X G (c.fact 3 (f := .glo "_law_row") rfl)
  have g_law_most := He.glo_ok X G (c.fact 4 (f := .glo "_law_most") rfl)
  have g_law_made28 := He.glo_ok X G (c.fact 5 (f := .glo "_law_made") rfl)
  have g_law_below := He.glo_ok X G (c.fact 6 (f := .glo "_law_below") rfl)
  have g_law_bound := He.glo_ok X G (c.fact 7 (f := .glo "_law_bound") rfl)
  have g_law_due := He.glo_ok X G (c.fact 8 (f := .glo "_law_due") rfl)
  have g_is_whole := He.glo_ok X G (c.fact 9 (f := .glo "is_whole") rfl)
  have g_is_row := He.glo_ok X G (c.fact 10 (f := .glo "is_row") rfl)
  have g_need_row := He.glo_ok X G (c.fact 11 (f := .glo "need_row") rfl)
  have g_made_to := He.glo_ok X G (c.fact 12 (f := .glo "made_to") rfl)
  have g_grown := He.glo_ok X G (c.fact 13 (f := .glo "grown") rfl)
  have g_next_one := He.glo_ok X G (c.fact 14 (f := .glo "next_one") rfl)
  have g_last_one := He.glo_ok X G (c.fact 15 (f := .glo "last_one") rfl)
  have g_nearest := He.glo_ok X G (c.fact 16 (f := .glo "nearest") rfl)
  have g_law_whole := He.glo_ok X G (c.fact 17 (f := .glo "_law_whole") rfl)
  have g_law := He.glo_ok X G (c.fact 18 (f := .glo "law") rfl)
  have e := hfa.symm.trans g_law
  cases e
  have b := FunD.bindsA (ps := ["script"]) H_law fun _ _ _ _ _ _ us hl => match us, hl with | [_], _ => rfl
  refine ⟨fd_law, fun s v => b s [v] rfl, fun base _ _ => ?_⟩
  have F_law_cells := ok_law_cells (P := P) (w := w) (base := base) H_law_cells g_law_cells m_enumerate m_int m_list
  have F_law_hand := ok_law_hand (P := P) (w := w) (base := base) H_law_hand g_law_hand 
  have F_law_draw := ok_law_draw (P := P) (w := w) (base := base) H_law_draw g_law_draw 
  have F_law_row := ok_law_row (P := P) (w := w) (base := base) H_law_row g_law_row F_law_draw m_int m_len m_range m_sorted
  have F_law_most := ok_law_most (P := P) (w := w) (base := base) H_law_most g_law_most m_int m_len
  have F_law_made28 := ok_law_made28 (P := P) (w := w) (base := base) H_law_made28 g_law_made28 m_list m_sorted
  have F_law_below := ok_law_below (P := P) (w := w) (base := base) H_law_below g_law_below m_len
  have F_law_bound := ok_law_bound (P := P) (w := w) (base := base) H_law_bound g_law_bound F_law_draw m_len m_max m_min m_range
  have F_law_due := ok_law_due (P := P) (w := w) (base := base) H_law_due g_law_due F_law_below m_int
  have F_is_whole := ok_is_whole (P := P) (w := w) (base := base) H_is_whole g_is_whole m_bool m_int m_isinstance
  have F_is_row := ok_is_row (P := P) (w := w) (base := base) H_is_row g_is_row F_is_whole m_isinstance m_len m_list m_zip g_MOST_PRIMES g_PRIMES hP_PRIMES
  have F_need_row := ok_need_row (P := P) (w := w) (base := base) H_need_row g_need_row F_is_row
  have F_made_to := ok_made_to (P := P) (w := w) (base := base) H_made_to g_made_to m_int m_len
  have F_grown := ok_grown (P := P) (w := w) (base := base) H_grown g_grown 
  have F_next_one := ok_next_one (P := P) (w := w) (base := base) H_next_one g_next_one F_need_row F_grown F_made_to m_min
  have F_last_one := ok_last_one (P := P) (w := w) (base := base) H_last_one g_last_one F_need_row F_made_to F_grown m_max
  have F_nearest := ok_nearest (P := P) (w := w) (base := base) H_nearest g_nearest F_next_one F_last_one
  have F_law_whole := ok_law_whole (P := P) (w := w) (base := base) H_law_whole g_law_whole m_bool m_int m_isinstance
  exact ok_law H_law F_law_cells F_law_hand F_law_row F_law_most F_law_bound F_law_made28 F_law_below F_law_due F_nearest F_law_whole m_list m_max m_min m_range
end K28
open PySem PySem.W PySem.Calls PyProof.Rows
theorem PySem.Challenge.cw_smallparts_k28_nearest_of_great_numbers_holds : PySem.Challenge.rw_smallparts_k28_nearest_of_great_numbers.Holds := by
  w_on; o_law
  refine HandSHeadRun.head_any (r := OpenLaw.row PySem.Challenge.rw_smallparts_k28_nearest_of_great_numbers) (q := view (OpenLaw.row PySem.Challenge.rw_smallparts_k28_nearest_of_great_numbers).prog [28]) (H := K28.hk) (ob := K28.ob) (M := 4000) (loose := K28.loose) (d := HandSHeadRun.topDef (OpenLaw.row PySem.Challenge.rw_smallparts_k28_nearest_of_great_numbers).prog 28) (kwd := []) K28.ob_eq
    (by kernel_rfl) (fun s => by kernel_rfl) K28.run (by kernel_rfl) (by kernel_rfl) (by kernel_rfl) (by rfl) (by first | assumption | decide +kernel) (by decide +kernel) ⟨rfl, rfl, rfl, rfl, rfl, by decide +kernel⟩ ?hw ?hc
  case hw => w_witness2
  case hc =>
    refine L2.walk_ofE (l := PySem.Challenge.rw_smallparts_k28_nearest_of_great_numbers) (n := 63) (k := 6) (x := "script") (CX := L2.CX0) rfl (by decide) (by kernel_rfl) ⟨rfl, by decide, by decide⟩ ?F (fun _ _ _ _ z => z)
    intro w mg fa h Y G hmg0
    obtain ⟨K, KX, c, cl⟩ := Y
    have hmg : mg ("law" : PySem.Str) = some (.ref fa) := by
      have e : (HandSHeadRun.topDef (OpenLaw.row PySem.Challenge.rw_smallparts_k28_nearest_of_great_numbers).prog 28).name = ("law" : PySem.Str) := by kernel_rfl
      rw [← e]
      exact hmg0
    obtain ⟨fd, hb, hF⟩ := K28.facts (P := (PySem.Challenge.rw_smallparts_k28_nearest_of_great_numbers).prog) (w := w) KX G hmg c cl
    exact ⟨K, fd, Px.sp_law K, KX, hb, fun H a ns hl ho hS => ⟨Px.nod_only ho, a, ns, rfl, hS, hl, fun _ => rfl⟩, hF⟩
