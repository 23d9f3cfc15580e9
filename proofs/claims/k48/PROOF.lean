import PyProof.Rows.All
import Wide.All
import OpenK.AllK
import Wide.FinOn
import HandS.HeadHook2
import HandS.ForMost
import HandS.ForExc
import HandS.Style
import HandS.SortInts
import HandS.IsInst
import HandS.Wide
import HandS.Flow
import HandS.WideMore
import HandS.Walk
import HandS.Evl
import HandS.Defaults
import PyProof.Rows.StrMul
import PyProof.StrBlock2
import KE.KDictZip
import KE.KDictItemsList
import HandS.ExcIs
import HandS.ExcOwn
import HandS.HeadHook1
import HandS.SetFor
import HandS.DictTup
import HandS.More
import KE.KDictWalk
import HandS.Text
import KE.IntTextText
import HandS.HeadEnd
import HandS.Words
import PyProof.ReprRoads
import HandS.FStr
import PyProof.ReprLen
import KE.GoesComp
import KE.KAsSuite
import HandS.JoinGen
import KE.KStateDown
import Lean
import HandS.Base
import HandS.Call
import HandS.Ends
import HandS.WordsExc
import HandS.Head0
import HandS.Head1
import HandS.Head2
import PySem.Challenge.RW_smallparts_k48_texts_of_no_parts
set_option Elab.async false
set_option linter.all false
namespace Px
open PySem L2
/-! what the top has left, with lists of the module's own -/
abbrev AlL : Type := He.AlD × Bool
def obsL (n : Nat) (fa : List He.Fa) (fn : List He.DefD) (ls : List (Str × List He.Dv)) (g : Addr → Option Obj) : AlL :=
  (He.obsD fa fn (He.frG g (He.asD g n)), ls.all fun q => He.lstB (He.frG g (He.asD g n)) q.1 q.2)
def hookL (n : Nat) (fa : List He.Fa) (fn : List He.DefD) (ls : List (Str × List He.Dv)) : PySem.W.Hook where
  α := AlL
  obs := fun s => obsL n fa fn ls s.heap.get?
  val := fun _ => (He.valD fn, true)
  says := fun _ h => ∃ K : PySem.W.Frag, K.In h ∧ He.SaysD fa fn K ∧ (ls.all fun q => He.lstB K q.1 q.2) = true
  of := fun _ _ e => ⟨_, He.frG_in, congrArg (fun z : AlL => z.1) e, congrArg (fun z : AlL => z.2) e⟩
  keeps := fun _ _ _ ⟨K, hK, c1, c2⟩ k => ⟨K, PySem.W.Frag.In.keeps hK k, c1, c2⟩
theorem obsL_eq {n : Nat} {fa : List He.Fa} {fn : List He.DefD} {ls : List (Str × List He.Dv)} {g : Addr → Option Obj} {s : Shared} (h : ∀ a, g a = s.heap.get? a) : obsL n fa fn ls g = (hookL n fa fn ls).obs s := by
  have e : g = s.heap.get? := funext h
  subst e; rfl
theorem lst_fact {ls : List (Str × List He.Dv)} {K : PySem.W.Frag} (h : (ls.all fun q => He.lstB K q.1 q.2) = true) (i : Nat) {x : Str} {vs : List He.Dv} (e : ls[i]? = some (x, vs)) : He.lstB K x vs = true := List.all_eq_true.mp h (x, vs) (List.mem_of_getElem? e)
end Px
set_option Elab.async false
set_option linter.all false
set_option maxRecDepth 100000
set_option maxHeartbeats 4000000
namespace Px
open PySem L2

/-! ### forgetting what is no longer needed -/
def flat : HO → Prop
  | .dT _ => False
  | .frz _ u => flat u
  | _ => True
class Nod (H : Hp) : Prop where
  nod : ∀ a o, H a = some o → flat o
theorem nod_upd {H : Hp} {p : Addr} {o : HO} (n : Nod H) (f : flat o) : Nod (upd H p o) := ⟨fun a u e => by
  by_cases h : a = p
  · subst h
    rw [upd_same] at e
    cases e
    exact f
  · rw [upd_ne h] at e
    exact n.nod a u e⟩
instance nod_lst {H : Hp} {p : Addr} {xs : List V} [n : Nod H] : Nod (upd H p (.lst xs)) := nod_upd n trivial
instance nod_tup {H : Hp} {p : Addr} {xs : List V} [n : Nod H] : Nod (upd H p (.tup xs)) := nod_upd n trivial
instance nod_dK {H : Hp} {p : Addr} {xs : List (Key × V)} [n : Nod H] : Nod (upd H p (.dK xs)) := nod_upd n trivial
instance nod_ins {H : Hp} {p C dx : Addr} {fs : List (Str × V)} [n : Nod H] : Nod (upd H p (.ins C dx fs)) := nod_upd n trivial
instance nod_own {H : Hp} {p x : Addr} [n : Nod H] : Nod (upd H p (.own x)) := nod_upd n trivial
theorem nod_only {H : Hp} (h : Only H) : Nod H := ⟨fun a o e => by
  rcases h a with z | ⟨ob, xs, z⟩
  · rw [z] at e; cases e
  · rw [z] at e; cases e; trivial⟩

/-- all that was tracked is as it was -/
def Ex (H H' : Hp) : Prop := ∀ a o, H a = some o → H' a = some o
theorem ex_refl {H : Hp} : Ex H H := fun _ _ h => h
theorem ex_trans {H H1 H2 : Hp} (a : Ex H H1) (b : Ex H1 H2) : Ex H H2 := fun x o h => b x o (a x o h)
theorem ex_upd {H H' : Hp} {p : Addr} {o : HO} (h : H p = none) (e : Ex H H') : Ex H (upd H' p o) := fun a u ha => by
  rw [upd_ne (ne_of_none ha h)]
  exact e a u ha
theorem ex_new {H : Hp} {p : Addr} {o : HO} (h : H p = none) : Ex H (upd H p o) := ex_upd h ex_refl
theorem ex_none {H H' : Hp} {p : Addr} (e : Ex H H') (h : H' p = none) : H p = none := by
  cases q : H p with
  | none => rfl
  | some o => rw [e p o q] at h; cases h
theorem none_upd {H : Hp} {p q : Addr} {o : HO} (h : upd H q o p = none) : H p = none ∧ p ≠ q := by
  by_cases e : p = q
  · subst e; rw [upd_same] at h; cases h
  · rw [upd_ne e] at h; exact ⟨h, e⟩
theorem ex_sq {K : PySem.W.Frag} {H H' : Hp} {a : Addr} {xs : List V} (e : Ex H H') (h : SqL K H a xs) : SqL K H' a xs := by
  rcases h with (h | ⟨o, h⟩) | h
  · exact .inl (.inl (e _ _ h))
  · exact .inl (.inr ⟨o, e _ _ h⟩)
  · exact .inr h
theorem ex_sqt {K : PySem.W.Frag} {H H' : Hp} {a : Addr} {xs : List V} (e : Ex H H') (h : SqT K H a xs) : SqT K H' a xs := by
  rcases h with (h | ⟨o, h⟩) | h
  · exact .inl (.inl (e _ _ h))
  · exact .inl (.inr ⟨o, e _ _ h⟩)
  · exact .inr h
theorem sq_new {K : PySem.W.Frag} {H : Hp} {a p : Addr} {xs : List V} {o : HO} (hp : H p = none) (h : SqL K H a xs) : SqL K (upd H p o) a xs := ex_sq (ex_new hp) h
theorem sq_ne {K : PySem.W.Frag} {H : Hp} {a p : Addr} {xs : List V} {o : HO} (hp : a ≠ p) (h : SqL K H a xs) : SqL K (upd H p o) a xs := by
  rcases h with (h | ⟨ob, h⟩) | h
  · exact .inl (.inl (by rw [upd_ne hp]; exact h))
  · exact .inl (.inr ⟨ob, by rw [upd_ne hp]; exact h⟩)
  · exact .inr h
theorem sq_at {K : PySem.W.Frag} {H : Hp} {a : Addr} {xs : List V} (h : H a = some (.lst xs)) : SqL K H a xs := .inl (.inl h)
theorem st_at {K : PySem.W.Frag} {H : Hp} {a : Addr} {xs : List V} (h : H a = some (.tup xs)) : SqT K H a xs := .inl (.inl h)
theorem sq_up {K : PySem.W.Frag} {H : Hp} {a : Addr} {xs : List V} : SqL K (upd H a (.lst xs)) a xs := sq_at upd_same

structure Fg (H H' H'' : Hp) : Prop where
  sub : ∀ a o, H'' a = some o → H' a = some o
  old : ∀ a o, H a = some o → H'' a = H' a
  own : ∀ a x, H a = some (.own x) → H' a = some (.own x)
  ins : ∀ a C dx fs, H'' a = some (.ins C dx fs) → ∃ fs', H a = some (.ins C dx fs')
  frz : ∀ a o u, H'' a = some (.frz o u) → H a = some (.frz o u)
  nod : ∀ a o, H'' a = some o → flat o
theorem ok_keep {P : Program} {w : World} {H H' H'' : Hp} {h h' : Heap} {a : Addr} {u : HO} (f : flat u) (x : ObjOk P w H h a u) (y : ObjOk P w H' h' a u) (k : ∀ b z, H b = some (.own z) → H'' b = some (.own z)) : ObjOk P w H'' h' a u := by
  induction u with
  | ins C dx fs =>
    obtain ⟨d, _⟩ := x
    obtain ⟨_, r⟩ := y
    exact ⟨k _ _ d, r⟩
  | dT kvs => exact f.elim
  | frz ob u ih =>
    obtain ⟨_, x2⟩ := x
    obtain ⟨y1, y2⟩ := y
    exact ⟨y1, ih f x2 y2⟩
  | lst xs => obtain ⟨z, its, m, r, e⟩ := y; exact ⟨z, its, m, r, e⟩
  | tup xs => obtain ⟨z, its, r, ob, e, c⟩ := y; exact ⟨z, its, r, ob, e, c⟩
  | dK kvs => obtain ⟨z, w1, vs, r, ob, es, ep, e, c⟩ := y; exact ⟨z, w1, vs, r, ob, es, ep, e, c⟩
  | set S m => obtain ⟨ob, es, ep, t, e, c⟩ := y; exact ⟨ob, es, ep, t, e, c⟩
  | own z => obtain ⟨ob, e⟩ := y; exact ⟨ob, e⟩
  | xd fs => obtain ⟨mA, ⟨od, es, ep, e, c⟩, r⟩ := y; exact ⟨mA, ⟨od, es, ep, e, c⟩, r⟩
  | met g z => have e : h'.get? a = some (PySem.W.methodObj (.ref g) (.ref z)) := y; show h'.get? a = some (PySem.W.methodObj (.ref g) (.ref z)); exact e
  | rng lo hi => obtain ⟨t, u, v, e⟩ := y; exact ⟨t, u, v, e⟩
  | tbl ps => have e : h'.get? a = some { cls := .none, data := .fields ps } := y; show h'.get? a = some { cls := .none, data := .fields ps }; exact e
  | ext p => obtain ⟨q, ⟨o, e⟩, st⟩ := y; exact ⟨q, ⟨o, e⟩, st⟩
theorem ok_plain {P : Program} {w : World} {H' H'' : Hp} {h' : Heap} {a : Addr} {u : HO} (f : flat u) (n1 : ∀ C dx fs, u ≠ .ins C dx fs) (n2 : ∀ ob v, u ≠ .frz ob v) (y : ObjOk P w H' h' a u) : ObjOk P w H'' h' a u := by
  cases u with
  | ins C dx fs => exact absurd rfl (n1 C dx fs)
  | dT kvs => exact f.elim
  | frz ob u => exact absurd rfl (n2 ob u)
  | lst xs => obtain ⟨z, its, m, r, e⟩ := y; exact ⟨z, its, m, r, e⟩
  | tup xs => obtain ⟨z, its, r, ob, e, c⟩ := y; exact ⟨z, its, r, ob, e, c⟩
  | dK kvs => obtain ⟨z, w1, vs, r, ob, es, ep, e, c⟩ := y; exact ⟨z, w1, vs, r, ob, es, ep, e, c⟩
  | set S m => obtain ⟨ob, es, ep, t, e, c⟩ := y; exact ⟨ob, es, ep, t, e, c⟩
  | own z => obtain ⟨ob, e⟩ := y; exact ⟨ob, e⟩
  | xd fs => obtain ⟨mA, ⟨od, es, ep, e, c⟩, r⟩ := y; exact ⟨mA, ⟨od, es, ep, e, c⟩, r⟩
  | met g z => have e : h'.get? a = some (PySem.W.methodObj (.ref g) (.ref z)) := y; show h'.get? a = some (PySem.W.methodObj (.ref g) (.ref z)); exact e
  | rng lo hi => obtain ⟨t, u, v, e⟩ := y; exact ⟨t, u, v, e⟩
  | tbl ps => have e : h'.get? a = some { cls := .none, data := .fields ps } := y; show h'.get? a = some { cls := .none, data := .fields ps }; exact e
  | ext p => obtain ⟨q, ⟨o, e⟩, st⟩ := y; exact ⟨q, ⟨o, e⟩, st⟩
theorem fg_ok {P : Program} {w : World} {H H' H'' : Hp} {h h' : Heap} (x : HOk P w H h) (y : HOk P w H' h') (f : Fg H H' H'') : HOk P w H'' h' := fun a o e => by
  have ko : ∀ b z, H b = some (.own z) → H'' b = some (.own z) := fun b z q => (f.old b _ q).trans (f.own b z q)
  have y1 := y a o (f.sub a o e)
  have fl := f.nod a o e
  by_cases hi : ∃ C dx fs, o = .ins C dx fs
  · obtain ⟨C, dx, fs, rfl⟩ := hi
    obtain ⟨fs', q⟩ := f.ins a C dx fs e
    obtain ⟨d, _⟩ := x a _ q
    obtain ⟨_, r⟩ := y1
    exact ⟨ko _ _ d, r⟩
  · by_cases hf : ∃ ob u, o = .frz ob u
    · obtain ⟨ob, u, rfl⟩ := hf
      exact ok_keep fl (x a _ (f.frz a ob u e)) y1 ko
    · exact ok_plain fl (fun C dx fs z => hi ⟨C, dx, fs, z⟩) (fun ob u z => hf ⟨ob, u, z⟩) y1
theorem fg_none {H H' H'' : Hp} (f : Fg H H' H'') {a : Addr} (h : H' a = none) : H'' a = none := by
  cases q : H'' a with
  | none => rfl
  | some o => rw [f.sub a o q] at h; cases h
theorem inv_fg {X : Cx} {pins pins' : List (Addr × Obj)} {σ σ' : L2.St} {H H' H'' : Hp} {s s' : Shared} (I : Inv X pins σ H s) (J : Inv X pins' σ' H' s') (f : Fg H H' H'') : Inv X pins' σ' H'' s' where
  ok := J.ok
  os := J.os
  bare := J.bare
  base := {
    keep := J.base.keep
    slot := J.base.slot
    free := fun b o q n hx => fg_none f (J.base.free b o q n hx)
    there := J.base.there
    tups := fun b xs q => (f.old b _ (I.base.tups b xs q)).trans (J.base.tups b xs q)
    frzs := fun b o u q => (f.old b _ (I.base.frzs b o u q)).trans (J.base.frzs b o u q)
    tbls := fun b ps q => by
      obtain ⟨m1, e1⟩ := I.base.tbls b ps q
      obtain ⟨m2, e2⟩ := J.base.tbls b ps q
      exact ⟨m2, (f.old b _ e1).trans e2⟩ }
  loc := J.loc
  cell := J.cell
  free := fg_none f J.free
  freeC := fun x c e => fg_none f (J.freeC x c e)
  pin := fun p hp => by
    obtain ⟨a, b, c, d, e⟩ := J.pin p hp
    exact ⟨a, fg_none f b, c, d, e⟩
  hok := fg_ok I.hok J.hok f
  len := J.len

theorem fg_same {H H' : Hp} [n : Nod H] (e : Ex H H') : Fg H H' H :=
  ⟨e, fun a o h => h.trans (e a o h).symm, fun a x h => e a _ h, fun a C dx fs h => ⟨fs, h⟩, fun a o u h => h, n.nod⟩
def fresh : HO → Prop
  | .lst _ => True
  | .tup _ => True
  | .dK _ => True
  | _ => False
theorem fresh_flat {o : HO} (h : fresh o) : flat o := by
  cases o with
  | dT kvs => exact (show False from h).elim
  | frz ob u => exact (show False from h).elim
  | lst xs => trivial
  | tup xs => trivial
  | dK kvs => trivial
  | set S n => trivial
  | own z => trivial
  | xd fs => trivial
  | met f z => trivial
  | rng lo hi => trivial
  | tbl ps => trivial
  | ext p => trivial
  | ins C dx fs => trivial
/-- what is kept: all of H but at S, and the new or changed ones L -/
theorem fg_gen {H H' H'' : Hp} [n : Nod H] (S : Addr → Prop) (k : ∀ a o, H a = some o → ¬ S a → H' a = some o ∧ H'' a = some o) (s : ∀ a, S a → ∃ o, fresh o ∧ H' a = some o ∧ H'' a = some o ∧ ∀ u, H a = some u → fresh u) (c : ∀ a, H a = none → ¬ S a → H'' a = none) : Fg H H' H'' where
  sub := fun a o e => by
    by_cases h : S a
    · obtain ⟨u, _, h1, h2, _⟩ := s a h
      rw [h2] at e; rw [h1]; exact e
    · cases q : H a with
      | none => rw [c a q h] at e; cases e
      | some u =>
        obtain ⟨h1, h2⟩ := k a u q h
        rw [h2] at e; rw [h1]; exact e
  old := fun a o e => by
    by_cases h : S a
    · obtain ⟨u, _, h1, h2, _⟩ := s a h
      rw [h1, h2]
    · obtain ⟨h1, h2⟩ := k a o e h
      rw [h1, h2]
  own := fun a x e => by
    by_cases h : S a
    · obtain ⟨u, _, h1, h2, h3⟩ := s a h
      exact (h3 _ e).elim
    · exact (k a _ e h).1
  ins := fun a C dx fs e => by
    by_cases h : S a
    · obtain ⟨u, f, h1, h2, h3⟩ := s a h
      rw [h2] at e; cases e; exact f.elim
    · cases q : H a with
      | none => rw [c a q h] at e; cases e
      | some u =>
        obtain ⟨h1, h2⟩ := k a u q h
        rw [h2] at e; cases e; exact ⟨_, rfl⟩
  frz := fun a o w e => by
    by_cases h : S a
    · obtain ⟨u, f, h1, h2, h3⟩ := s a h
      rw [h2] at e; cases e; exact f.elim
    · cases q : H a with
      | none => rw [c a q h] at e; cases e
      | some u =>
        obtain ⟨h1, h2⟩ := k a u q h
        rw [h2] at e; cases e; rfl
  nod := fun a o e => by
    by_cases h : S a
    · obtain ⟨u, f, h1, h2, h3⟩ := s a h
      rw [h2] at e; cases e; exact fresh_flat f
    · cases q : H a with
      | none => rw [c a q h] at e; cases e
      | some u =>
        obtain ⟨h1, h2⟩ := k a u q h
        rw [h2] at e; cases e; exact n.nod a _ q
/-- one new or changed thing -/
theorem fg_one {H H' : Hp} {p : Addr} {o : HO} [n : Nod H] (f : fresh o) (hp : ∀ u, H p = some u → fresh u) (e : ∀ a u, a ≠ p → H a = some u → H' a = some u) (h : H' p = some o) : Fg H H' (upd H p o) :=
  fg_gen (fun a => a = p) (fun a u q ne => ⟨e a u ne q, by rw [upd_ne ne]; exact q⟩) (fun a q => by subst q; exact ⟨o, f, h, upd_same, hp⟩) (fun a q ne => by rw [upd_ne ne]; exact q)
theorem fg_new {H H' : Hp} {p : Addr} {o : HO} [n : Nod H] (f : fresh o) (hp : H p = none) (e : Ex H H') (h : H' p = some o) : Fg H H' (upd H p o) :=
  fg_one f (fun u q => by rw [hp] at q; cases q) (fun a u _ q => e a u q) h
theorem fg_mut {H H' : Hp} {p : Addr} {xs : List V} {o : HO} [n : Nod H] (f : fresh o) (hp : H p = some (.lst xs)) (e : ∀ a u, a ≠ p → H a = some u → H' a = some u) (h : H' p = some o) : Fg H H' (upd H p o) :=
  fg_one f (fun u q => by rw [hp] at q; cases q; trivial) e h
theorem fg_mut_new {H H' : Hp} {l p : Addr} {xs : List V} {o u : HO} [n : Nod H] (f : fresh o) (g : fresh u) (hl : H l = some (.lst xs)) (hp : H p = none) (e : ∀ a u, a ≠ l → H a = some u → H' a = some u) (h : H' l = some o) (h2 : H' p = some u) : Fg H H' (upd (upd H l o) p u) := by
  have ne : l ≠ p := ne_of_none hl hp
  refine fg_gen (fun a => a = l ∨ a = p) (fun a w q z => ?_) (fun a z => ?_) (fun a q z => ?_)
  · have z1 : a ≠ l := fun y => z (.inl y)
    have z2 : a ≠ p := fun y => z (.inr y)
    exact ⟨e a w z1 q, by rw [upd_ne z2, upd_ne z1]; exact q⟩
  · rcases z with rfl | rfl
    · exact ⟨o, f, h, by rw [upd_ne ne, upd_same], fun w q => by rw [hl] at q; cases q; trivial⟩
    · exact ⟨u, g, h2, upd_same, fun w q => by rw [hp] at q; cases q⟩
  · have z1 : a ≠ l := fun y => z (.inl y)
    have z2 : a ≠ p := fun y => z (.inr y)
    rw [upd_ne z2, upd_ne z1]; exact q

section
variable {X : Cx} {e : Expr} {es : List Expr} {st : Stmt} {sts : List Stmt}
def tFg (t : TE) : TE := fun σ H Q => t σ H fun v H' => ∃ H'', Fg H H' H'' ∧ Q v H''
def bFg (t : TT) : TT := fun σ H Q => t σ H fun v H' => ∃ H'', Fg H H' H'' ∧ Q v H''
def sFg (t : TS) : TS := fun D σ H => t { nx := fun σ' H' => ∃ H'', Fg H H' H'' ∧ D.nx σ' H'', rt := fun v H' => ∃ H'', Fg H H' H'' ∧ D.rt v H'', bk := fun σ' H' => ∃ H'', Fg H H' H'' ∧ D.bk σ' H'', ct := fun σ' H' => ∃ H'', Fg H H' H'' ∧ D.ct σ' H'' } σ H
theorem pe_fg {t : TE} (h : PE X e t) : PE X e (tFg t) := ⟨fun pins s σ H Q I q => by
  refine wpAny_mono (h.run pins s σ H _ I q) (fun u s' z => ?_) fun _ _ z => z
  obtain ⟨v, H', J, r, H'', f, qq⟩ := z
  exact ⟨v, H'', inv_fg I J f, r, qq⟩⟩
theorem pt_fg {t : TT} (h : PT X e t) : PT X e (bFg t) := ⟨fun pins s σ H Q I q => by
  refine wpAny_mono (h.run pins s σ H _ I q) (fun u s' z => ?_) fun _ _ z => z
  obtain ⟨H', J, H'', f, qq⟩ := z
  exact ⟨H'', inv_fg I J f, qq⟩⟩
theorem sp_fg {pins : List (Addr × Obj)} {σ : L2.St} {H : Hp} {s s' : Shared} {D : Ends} {f : Flow} (I : Inv X pins σ H s)
    (z : SP X pins { nx := fun σ' H' => ∃ H'', Fg H H' H'' ∧ D.nx σ' H'', rt := fun v H' => ∃ H'', Fg H H' H'' ∧ D.rt v H'', bk := fun σ' H' => ∃ H'', Fg H H' H'' ∧ D.bk σ' H'', ct := fun σ' H' => ∃ H'', Fg H H' H'' ∧ D.ct σ' H'' } f s') : SP X pins D f s' := by
  cases f with
  | next => obtain ⟨σ', H', J, H'', g, q⟩ := z; exact ⟨σ', H'', inv_fg I J g, q⟩
  | ret v => obtain ⟨x, σ', H', J, r, H'', g, q⟩ := z; exact ⟨x, σ', H'', inv_fg I J g, r, q⟩
  | brk => obtain ⟨σ', H', J, H'', g, q⟩ := z; exact ⟨σ', H'', inv_fg I J g, q⟩
  | cont => obtain ⟨σ', H', J, H'', g, q⟩ := z; exact ⟨σ', H'', inv_fg I J g, q⟩
theorem ps_fg {t : TS} (h : PS X st t) : PS X st (sFg t) := ⟨fun pins s σ H D I q => wpAny_mono (h.run pins s σ H _ I q) (fun _ _ z => sp_fg I z) fun _ _ z => z⟩
theorem pss_fg {t : TS} (h : PSs X sts t) : PSs X sts (sFg t) := ⟨fun pins s σ H D I q => wpAny_mono (h.run pins s σ H _ I q) (fun _ _ z => sp_fg I z) fun _ _ z => z⟩
end
end Px
set_option Elab.async false
set_option linter.all false
set_option maxRecDepth 100000
set_option maxHeartbeats 4000000
namespace Px
open PySem L2

/-! ### the operators by short names -/
abbrev oAdd : R2 := rI0 fun i j => .int (i + j)
abbrev oSub : R2 := rI0 fun i j => .int (i - j)
abbrev oMul : R2 := rI CMulW fun i j => .int (i * j)
abbrev oDiv : R2 := rI CDivW fun i j => .int (i / j)
abbrev oMod : R2 := rI (fun _ j => 0 < j) fun i j => .int (i % j)
abbrev oPow : R2 := rI CPow fun i j => .int (i ^ j.toNat)
abbrev oLt : R2 := rI0 fun i j => .bl (decide (i < j))
abbrev oLe : R2 := rI0 fun i j => .bl (decide (i ≤ j))
abbrev oGt : R2 := rI0 fun i j => .bl (decide (j < i))
abbrev oGe : R2 := rI0 fun i j => .bl (decide (j ≤ i))
abbrev oIsN : R2 := fun x y H Q => y = .non ∧ Q (.bl (decide (x = .non))) H
abbrev oNotN : R2 := fun x y H Q => y = .non ∧ Q (.bl (!decide (x = .non))) H
abbrev oCatS : R2 := fun x y H Q => ∃ i j, x = .str i ∧ y = .str j ∧ i.length + j.length ≤ sizeLine ∧ Q (.str (i ++ j)) H
abbrev uNeg : V → Hp → VK → Prop := rU fun i => .int (-i)
abbrev cLen (K : PySem.W.Frag) : List V → Hp → VK → Prop := fun xs H Q => ∃ p ys, xs = [.ref p] ∧ (SqL K H p ys ∨ SqT K H p ys) ∧ Q (.int ys.length) H
abbrev cLenS : List V → Hp → VK → Prop := fun xs H Q => ∃ z, xs = [.str z] ∧ z.length ≤ sizeLine ∧ Q (.int z.length) H
abbrev cInt : List V → Hp → VK → Prop := fun xs H Q => (∃ i, xs = [.int i] ∧ Q (.int i) H) ∨ ∃ k, xs = [.bl k] ∧ Q (.int (if k then 1 else 0)) H
abbrev cIntS : List V → Hp → VK → Prop := fun xs H Q => ∃ a n, xs = [.str a] ∧ PySem.intText? a = some n ∧ a.length ≤ 640 ∧ Q (.int n) H
abbrev cStr : List V → Hp → VK → Prop := fun xs H Q => ∃ i, xs = [.int i] ∧ i.natAbs.log2 < 1920 ∧ Q (.str (toString i)) H
abbrev cAbs : List V → Hp → VK → Prop := fun xs H Q => ∃ i, xs = [.int i] ∧ Q (.int (if i < 0 then -i else i)) H
abbrev cMax : List V → Hp → VK → Prop := fun xs H Q => ∃ i j, xs = [.int i, .int j] ∧ Q (.int (if j > i then j else i)) H
abbrev cMin : List V → Hp → VK → Prop := fun xs H Q => ∃ i j, xs = [.int i, .int j] ∧ Q (.int (if j < i then j else i)) H
abbrev cList (K : PySem.W.Frag) : List V → Hp → VK → Prop := fun xs H Q => ∃ p ys, xs = [.ref p] ∧ (SqL K H p ys ∨ SqT K H p ys) ∧ ∀ l, H l = none → Q (.ref l) (upd H l (.lst ys))
/-- x *= e, x //= e -/
def ipC (C : Int → Int → Prop) (f : Int → Int → Int) : TIp := fun x y H Q => ∃ i j, x = .int i ∧ y = .int j ∧ C i j ∧ Q (.int (f i j)) H
section
variable {X : Cx}
theorem ip_mul : PIp X .Mult (ipC CMulW fun i j => i * j) := by
  intro pins s σ H x y vx vy Q I rx ry h
  obtain ⟨i, j, rfl, rfl, c, q⟩ := h
  obtain ⟨t, rfl⟩ := rx
  obtain ⟨t', rfl⟩ := ry
  exact PyProof.Rows.imul_int ⟨.int _, H, I.tok _, ⟨_, rfl⟩, q⟩ c.ok
theorem ip_div : PIp X .FloorDiv (ipC CDivW fun i j => i / j) := by
  intro pins s σ H x y vx vy Q I rx ry h
  obtain ⟨i, j, rfl, rfl, c, q⟩ := h
  exact iop_fdivW pins s σ H _ _ vx vy Q I rx ry ⟨i, j, rfl, rfl, c, q⟩
end

/-! ### what evaluates to what, the heap as it was -/
def Ev (te : TE) (σ : L2.St) (H : Hp) (v : V) : Prop := ∀ Q : VK, Q v H → te σ H Q
def EvL (te : TE) (σ : L2.St) (H : Hp) (xs : List V) : Prop := ∀ Q : VK, (∀ p, H p = none → Q (.ref p) (upd H p (.lst xs))) → te σ H Q
def EvU (te : TE) (σ : L2.St) (H : Hp) (xs : List V) : Prop := ∀ Q : VK, (∀ p, H p = none → Q (.ref p) (upd H p (.tup xs))) → te σ H Q
def EvT (tt : TT) (σ : L2.St) (H : Hp) (b : Bool) : Prop := ∀ Q : Bool → Hp → Prop, Q b H → tt σ H Q
def EvA (ta : TA) (σ : L2.St) (H : Hp) (vs : List V) : Prop := ∀ Q : List V → Hp → Prop, Q vs H → ta σ H Q
def EvO (to : TO) (σ : L2.St) (H : Hp) (o : Option Int) : Prop := ∀ Q : Option Int → Hp → Prop, Q o H → to σ H Q
def RV (r : R2) (x y : V) (H : Hp) (z : V) : Prop := ∀ Q : VK, Q z H → r x y H Q
def RC (r : List V → Hp → VK → Prop) (vs : List V) (H : Hp) (z : V) : Prop := ∀ Q : VK, Q z H → r vs H Q
section
variable {K : PySem.W.Frag} {σ : L2.St} {H : Hp} {ta tb tc te : TE} {t u : TT} {x y z v : V} {r : R2} {i j : Int}
theorem ev_v (n : Nat) (h : σ[n]? = some (some v) := by rfl) : Ev (tVar n) σ H v := fun _ q => ⟨v, h, q⟩
theorem w_v (n : Nat) {Q : VK} (q : Q v H) (h : σ[n]? = some (some v) := by rfl) : tVar n σ H Q := ⟨v, h, q⟩
theorem ev_c : Ev (tC v) σ H v := fun _ q => q
theorem ev_op (ha : Ev ta σ H x) (hb : Ev tb σ H y) (hr : RV r x y H z) : Ev (tOp r ta tb) σ H z := fun Q q => ha _ (hb _ (hr Q q))
theorem ev_eq (h : Ev te σ H x) (e : x = y) : Ev te σ H y := e ▸ h
theorem rv_0 {g : Int → Int → V} : RV (rI0 g) (.int i) (.int j) H (g i j) := fun _ q => ⟨i, j, rfl, rfl, q⟩
theorem rv_1 {C : Int → Int → Prop} {g : Int → Int → V} (c : C i j) : RV (rI C g) (.int i) (.int j) H (g i j) := fun _ q => ⟨i, j, rfl, rfl, c, q⟩
theorem ev_add (ha : Ev ta σ H (.int i)) (hb : Ev tb σ H (.int j)) : Ev (tOp oAdd ta tb) σ H (.int (i + j)) := ev_op ha hb rv_0
theorem ev_sub (ha : Ev ta σ H (.int i)) (hb : Ev tb σ H (.int j)) : Ev (tOp oSub ta tb) σ H (.int (i - j)) := ev_op ha hb rv_0
theorem ev_mul (ha : Ev ta σ H (.int i)) (hb : Ev tb σ H (.int j)) (c : CMulW i j) : Ev (tOp oMul ta tb) σ H (.int (i * j)) := ev_op ha hb (rv_1 c)
theorem ev_div (ha : Ev ta σ H (.int i)) (hb : Ev tb σ H (.int j)) (c : CDivW i j) : Ev (tOp oDiv ta tb) σ H (.int (i / j)) := ev_op ha hb (rv_1 c)
theorem ev_mod (ha : Ev ta σ H (.int i)) (hb : Ev tb σ H (.int j)) (c : 0 < j) : Ev (tOp oMod ta tb) σ H (.int (i % j)) := ev_op ha hb (rv_1 c)
theorem ev_pow (ha : Ev ta σ H (.int i)) (hb : Ev tb σ H (.int j)) (c : CPow i j) : Ev (tOp oPow ta tb) σ H (.int (i ^ j.toNat)) := ev_op ha hb (rv_1 c)
theorem ev_lt (ha : Ev ta σ H (.int i)) (hb : Ev tb σ H (.int j)) : Ev (tOp oLt ta tb) σ H (.bl (decide (i < j))) := ev_op ha hb rv_0
theorem ev_le (ha : Ev ta σ H (.int i)) (hb : Ev tb σ H (.int j)) : Ev (tOp oLe ta tb) σ H (.bl (decide (i ≤ j))) := ev_op ha hb rv_0
theorem ev_gt (ha : Ev ta σ H (.int i)) (hb : Ev tb σ H (.int j)) : Ev (tOp oGt ta tb) σ H (.bl (decide (j < i))) := ev_op ha hb rv_0
theorem ev_ge (ha : Ev ta σ H (.int i)) (hb : Ev tb σ H (.int j)) : Ev (tOp oGe ta tb) σ H (.bl (decide (j ≤ i))) := ev_op ha hb rv_0
theorem ev_eqs (ha : Ev ta σ H x) (hb : Ev tb σ H y) (s : scal x y = true) : Ev (tOp rEq ta tb) σ H (.bl (decide (x = y))) := ev_op ha hb fun _ q => ⟨s, q⟩
theorem ev_nes (ha : Ev ta σ H x) (hb : Ev tb σ H y) (s : scal x y = true) : Ev (tOp rNe ta tb) σ H (.bl (!decide (x = y))) := ev_op ha hb fun _ q => ⟨s, q⟩
theorem dec_int : decide (V.int i = V.int j) = decide (i = j) := by
  by_cases h : i = j
  · subst h; simp
  · rw [decide_eq_false h, decide_eq_false (fun e => h (V.int.inj e))]
theorem ev_eqi (ha : Ev ta σ H (.int i)) (hb : Ev tb σ H (.int j)) : Ev (tOp rEq ta tb) σ H (.bl (decide (i = j))) := fun Q q => ev_eqs ha hb rfl Q (by rw [dec_int]; exact q)
theorem ev_nei (ha : Ev ta σ H (.int i)) (hb : Ev tb σ H (.int j)) : Ev (tOp rNe ta tb) σ H (.bl (!decide (i = j))) := fun Q q => ev_nes ha hb rfl Q (by rw [dec_int]; exact q)
theorem ev_isN (ha : Ev ta σ H x) : Ev (tOp oIsN ta (tC .non)) σ H (.bl (decide (x = .non))) := ev_op ha ev_c fun _ q => ⟨rfl, q⟩
theorem ev_notN (ha : Ev ta σ H x) : Ev (tOp oNotN ta (tC .non)) σ H (.bl (!decide (x = .non))) := ev_op ha ev_c fun _ q => ⟨rfl, q⟩
theorem ev_isB {a b : Bool} (ha : Ev ta σ H (.bl a)) (hb : Ev tb σ H (.bl b)) : Ev (tOp rIsB ta tb) σ H (.bl (decide (a = b))) := ev_op ha hb fun _ q => ⟨a, b, rfl, rfl, q⟩
theorem ev_notB {a b : Bool} (ha : Ev ta σ H (.bl a)) (hb : Ev tb σ H (.bl b)) : Ev (tOp rNotB ta tb) σ H (.bl (!decide (a = b))) := ev_op ha hb fun _ q => ⟨a, b, rfl, rfl, q⟩
theorem ev_neg (ha : Ev ta σ H (.int i)) : Ev (tUn uNeg ta) σ H (.int (-i)) := fun _ q => ha _ ⟨i, rfl, q⟩
theorem ev_chain {a b : Bool} {r r' : R2} (ha : Ev ta σ H x) (hb : Ev tb σ H y) (hr : RV r x y H (.bl a)) (hc : a = true → Ev tc σ H z) (hr' : a = true → RV r' y z H (.bl b)) : Ev (tChain r r' ta tb tc) σ H (.bl (a && b)) := fun Q q =>
  ha _ (hb _ (hr _ ⟨a, rfl, by
    cases a with
    | true => exact iteT (hc rfl _ (hr' rfl Q q))
    | false => exact iteF q⟩))
theorem ev_ixL {p : Addr} {xs : List V} (ha : Ev ta σ H (.ref p)) (hb : Ev tb σ H (.int i)) (h : SqL K H p xs) (e : atI xs i = some v) : Ev (tOp (rIxL K) ta tb) σ H v := ev_op ha hb fun _ q => ⟨p, xs, i, v, rfl, rfl, h, e, q⟩
theorem ev_ixT {p : Addr} {xs : List V} (ha : Ev ta σ H (.ref p)) (hb : Ev tb σ H (.int i)) (h : SqT K H p xs) (e : atI xs i = some v) : Ev (tOp (rIxT K) ta tb) σ H v := ev_op ha hb fun _ q => ⟨p, xs, i, v, rfl, rfl, h, e, q⟩
theorem ev_cb {r : List V → Hp → VK → Prop} {ta : TA} {vs : List V} (h : EvA ta σ H vs) (hr : RC r vs H z) : Ev (tCB r ta) σ H z := fun Q q => h _ (hr Q q)
theorem ea_nil : EvA tNil σ H [] := fun _ q => q
theorem ea_cons {tr : TA} {vs : List V} (h : Ev ta σ H x) (hr : EvA tr σ H vs) : EvA (tCons ta tr) σ H (x :: vs) := fun _ q => h _ (hr _ q)
theorem ea_1 (h : Ev ta σ H x) : EvA (tCons ta tNil) σ H [x] := ea_cons h ea_nil
theorem ea_2 (h : Ev ta σ H x) (g : Ev tb σ H y) : EvA (tCons ta (tCons tb tNil)) σ H [x, y] := ea_cons h (ea_1 g)
theorem ea_3 (h : Ev ta σ H x) (g : Ev tb σ H y) (f : Ev tc σ H z) : EvA (tCons ta (tCons tb (tCons tc tNil))) σ H [x, y, z] := ea_cons h (ea_2 g f)
theorem ev_len {p : Addr} {xs : List V} (ha : Ev ta σ H (.ref p)) (h : SqL K H p xs) : Ev (tCB (cLen K) (tCons ta tNil)) σ H (.int (xs.length : Int)) := ev_cb (ea_1 ha) fun _ q => ⟨p, xs, rfl, .inl h, q⟩
theorem ev_lenT {p : Addr} {xs : List V} (ha : Ev ta σ H (.ref p)) (h : SqT K H p xs) : Ev (tCB (cLen K) (tCons ta tNil)) σ H (.int (xs.length : Int)) := ev_cb (ea_1 ha) fun _ q => ⟨p, xs, rfl, .inr h, q⟩
theorem ev_lenS {s : Str} (ha : Ev ta σ H (.str s)) (h : s.length ≤ sizeLine) : Ev (tCB cLenS (tCons ta tNil)) σ H (.int (s.length : Int)) := ev_cb (ea_1 ha) fun _ q => ⟨s, rfl, h, q⟩
theorem ev_intB {b : Bool} (ha : Ev ta σ H (.bl b)) : Ev (tCB cInt (tCons ta tNil)) σ H (.int (if b then 1 else 0)) := ev_cb (ea_1 ha) fun _ q => .inr ⟨b, rfl, q⟩
theorem ev_intI (ha : Ev ta σ H (.int i)) : Ev (tCB cInt (tCons ta tNil)) σ H (.int i) := ev_cb (ea_1 ha) fun _ q => .inl ⟨i, rfl, q⟩
theorem ev_abs (ha : Ev ta σ H (.int i)) : Ev (tCB cAbs (tCons ta tNil)) σ H (.int (if i < 0 then -i else i)) := ev_cb (ea_1 ha) fun _ q => ⟨i, rfl, q⟩
theorem ev_max (ha : Ev ta σ H (.int i)) (hb : Ev tb σ H (.int j)) : Ev (tCB cMax (tCons ta (tCons tb tNil))) σ H (.int (if j > i then j else i)) := ev_cb (ea_2 ha hb) fun _ q => ⟨i, j, rfl, q⟩
theorem ev_min (ha : Ev ta σ H (.int i)) (hb : Ev tb σ H (.int j)) : Ev (tCB cMin (tCons ta (tCons tb tNil))) σ H (.int (if j < i then j else i)) := ev_cb (ea_2 ha hb) fun _ q => ⟨i, j, rfl, q⟩
theorem ev_sum {p : Addr} {ns : List Int} (ha : Ev ta σ H (.ref p)) (h : SqL K H p (ns.map V.int)) : Ev (tCB (rSum K) (tCons ta tNil)) σ H (.int ns.sum) := ev_cb (ea_1 ha) fun _ q => ⟨p, ns, rfl, h, q⟩
theorem ev_isi {t0 u0 : Value} {b : Bool} {c : V} (ha : Ev ta σ H x) (hb : Ev tb σ H c) (k : ClsV c u0) (ty : TyX K H x t0) (e : PySem.W.kitOne K t0 u0 = some b) : Ev (tCB (rIsi K) (tCons ta (tCons tb tNil))) σ H (.bl b) := ev_cb (ea_2 ha hb) fun _ q => ⟨x, c, t0, u0, b, rfl, k, ty, e, q⟩
theorem ev_if {b : Bool} (h : EvT t σ H b) (h1 : b = true → Ev ta σ H v) (h2 : b = false → Ev tb σ H v) : Ev (tIf t ta tb) σ H v := fun Q q => h _ (by
  cases b with
  | true => exact iteT (h1 rfl Q q)
  | false => exact iteF (h2 rfl Q q))
theorem ev_ite {b : Bool} {v w : V} (h : EvT t σ H b) (h1 : Ev ta σ H v) (h2 : Ev tb σ H w) : Ev (tIf t ta tb) σ H (if b then v else w) := fun Q q => h _ (by
  cases b with
  | true => exact iteT (h1 Q q)
  | false => exact iteF (h2 Q q))
theorem ev_and {a b : Bool} (h1 : Ev ta σ H (.bl a)) (h2 : a = true → Ev tb σ H (.bl b)) : Ev (tAndV ta tb) σ H (.bl (a && b)) := fun Q q => h1 _ ⟨a, rfl, by
  cases a with
  | true => exact iteT (h2 rfl Q q)
  | false => exact iteF q⟩
theorem ev_or {a b : Bool} (h1 : Ev ta σ H (.bl a)) (h2 : a = false → Ev tb σ H (.bl b)) : Ev (tOrV ta tb) σ H (.bl (a || b)) := fun Q q => h1 _ ⟨a, rfl, by
  cases a with
  | true => exact iteT q
  | false => exact iteF (h2 rfl Q q)⟩
theorem ev_not {a : Bool} (h1 : Ev ta σ H (.bl a)) : Ev (tNotV ta) σ H (.bl (!a)) := fun _ q => h1 _ ⟨a, rfl, q⟩
theorem et_t {b : Bool} (h : Ev te σ H (.bl b)) : EvT (tTest te) σ H b := fun _ q => h _ ⟨b, rfl, q⟩
theorem et_b {b : Bool} (h : Ev te σ H (.bl b)) : EvT (tB te) σ H b := fun _ q => h _ ⟨b, rfl, q⟩
theorem et_and {a b : Bool} (h1 : EvT t σ H a) (h2 : a = true → EvT u σ H b) : EvT (tAnd t u) σ H (a && b) := fun Q q => h1 _ (by
  cases a with
  | true => exact iteT (h2 rfl Q q)
  | false => exact iteF q)
theorem et_or {a b : Bool} (h1 : EvT t σ H a) (h2 : a = false → EvT u σ H b) : EvT (tOr t u) σ H (a || b) := fun Q q => h1 _ (by
  cases a with
  | true => exact iteT q
  | false => exact iteF (h2 rfl Q q))
theorem et_not {a : Bool} (h1 : EvT t σ H a) : EvT (tNot t) σ H (!a) := fun _ q => h1 _ q
theorem et_eq {a b : Bool} (h : EvT t σ H a) (e : a = b) : EvT t σ H b := e ▸ h
theorem et_yes : EvT tYes σ H true := fun _ q => q
theorem eo_no : EvO tNoPart σ H none := fun _ q => q
theorem eo_is (h : Ev te σ H (.int i)) : EvO (tPart te) σ H (some i) := fun _ q => h _ ⟨i, rfl, q⟩
theorem el_nil : EvL (tLst tNil) σ H [] := fun _ q => ⟨Nat.zero_le _, q⟩
theorem el_lst {ta : TA} {vs : List V} (h : EvA ta σ H vs) (hl : vs.length ≤ 1000) : EvL (tLst ta) σ H vs := fun _ q => h _ ⟨Nat.le_trans hl (by decide), q⟩
theorem eu_tup {ta : TA} {vs : List V} (h : EvA ta σ H vs) (hl : vs.length ≤ 1000) : EvU (tTup ta) σ H vs := fun _ q => h _ ⟨Nat.le_trans hl (by decide), q⟩
theorem el_sl {tl th : TO} {a : Addr} {xs : List V} {lo hi : Option Int} (h : Ev te σ H (.ref a)) (h1 : EvO tl σ H lo) (h2 : EvO th σ H hi) (hs : SqL K H a xs) : EvL (tSl (rSlL K) te tl th) σ H (cutV xs lo hi) := fun _ q => h _ (h1 _ (h2 _ ⟨a, xs, rfl, hs, q⟩))
theorem el_list {a : Addr} {xs : List V} (h : Ev te σ H (.ref a)) (hs : SqL K H a xs) : EvL (tCB (cList K) (tCons te tNil)) σ H xs := fun _ q => h _ ⟨a, xs, rfl, .inl hs, q⟩
theorem el_rev {a : Addr} {xs : List V} (h : Ev te σ H (.ref a)) (hs : SqL K H a xs) : EvL (tRevL K te) σ H xs.reverse := fun _ q => h _ ⟨a, xs, rfl, hs, q⟩
theorem el_cat {a b : Addr} {xs ys : List V} (h : Ev ta σ H (.ref a)) (g : Ev tb σ H (.ref b)) (ha : H a = some (.lst xs)) (hb : H b = some (.lst ys)) (hl : xs.length + ys.length ≤ sizeLine) : EvL (tOp rCat ta tb) σ H (xs ++ ys) := fun _ q => h _ (g _ ⟨a, b, xs, ys, rfl, rfl, ha, hb, hl, q⟩)

/-! ### forgetting -/
theorem ev_fg [Nod H] (h : ∀ Q : VK, (∀ H', Ex H H' → Q v H') → te σ H Q) : Ev (tFg te) σ H v := fun Q q => h _ fun H' e => ⟨H, fg_same e, q⟩
theorem el_fg [Nod H] {xs : List V} (h : ∀ Q : VK, (∀ p H', H p = none → Ex H H' → H' p = some (.lst xs) → Q (.ref p) H') → te σ H Q) : EvL (tFg te) σ H xs := fun Q q => h _ fun p H' hp e hx => ⟨upd H p (.lst xs), fg_new trivial hp e hx, q p hp⟩
theorem et_fg [Nod H] {b : Bool} (h : ∀ Q : Bool → Hp → Prop, (∀ H', Ex H H' → Q b H') → t σ H Q) : EvT (bFg t) σ H b := fun Q q => h _ fun H' e => ⟨H, fg_same e, q⟩
/-- what is already exact stays so -/
theorem ev_fg0 [Nod H] (h : Ev te σ H v) : Ev (tFg te) σ H v := ev_fg fun Q q => h Q (q H ex_refl)
/-- an item of a list made on the way -/
theorem ev_pick [Nod H] {xs : List V} (h : EvL ta σ H xs) (hb : ∀ p, H p = none → Ev tb σ (upd H p (.lst xs)) (.int i)) (e : atI xs i = some v) : Ev (tFg (tOp (rIxL K) ta tb)) σ H v :=
  ev_fg fun Q q => h _ fun p hp => hb p hp _ ⟨p, xs, i, v, rfl, rfl, sq_up, e, q _ (ex_new hp)⟩
end
end Px
set_option Elab.async false
set_option linter.all false
set_option maxRecDepth 100000
set_option maxHeartbeats 4000000
namespace Px
open PySem L2
section
variable {K : PySem.W.Frag} {σ : L2.St} {H : Hp} {ta tb tc te tl : TE} {t u : TT} {x y z v : V} {D : Ends} {s1 s2 s3 tu : TS} {n m : Nat} {i j : Int}
/-! ### statements -/
theorem s_set (h : Ev te σ H v) (k : D.nx (σ.set n (some v)) H) : tAsg te (gName n) D σ H := h _ k
theorem s_setL {xs : List V} (h : EvL te σ H xs) (k : ∀ p, H p = none → D.nx (σ.set n (some (.ref p))) (upd H p (.lst xs))) : tAsg te (gName n) D σ H := h _ k
theorem q_set (h : Ev te σ H v) (k : s2 D (σ.set n (some v)) H) : tSeq (tAsg te (gName n)) s2 D σ H := h _ k
theorem q_setL {xs : List V} (h : EvL te σ H xs) (k : ∀ p, H p = none → s2 D (σ.set n (some (.ref p))) (upd H p (.lst xs))) : tSeq (tAsg te (gName n)) s2 D σ H := h _ k
theorem q_setW (h : te σ H fun w H1 => s2 D (σ.set n (some w)) H1) : tSeq (tAsg te (gName n)) s2 D σ H := h
theorem s_setW (h : te σ H fun w H1 => D.nx (σ.set n (some w)) H1) : tAsg te (gName n) D σ H := h
theorem s_ret (h : Ev te σ H v) (k : D.rt v H) : tRet te D σ H := h _ k
theorem s_retL {xs : List V} (h : EvL te σ H xs) (k : ∀ p, H p = none → D.rt (.ref p) (upd H p (.lst xs))) : tRet te D σ H := h _ k
theorem s_if {b : Bool} (h : EvT t σ H b) (h1 : b = true → s1 D σ H) (h2 : b = false → s2 D σ H) : tIfS t s1 s2 D σ H := h _ (by
  cases b with
  | true => exact iteT (h1 rfl)
  | false => exact iteF (h2 rfl))
theorem q_if {b : Bool} (h : EvT t σ H b) (h1 : b = true → s1 { D with nx := s3 D } σ H) (h2 : b = false → s2 { D with nx := s3 D } σ H) : tSeq (tIfS t s1 s2) s3 D σ H := s_if (D := { D with nx := s3 D }) h h1 h2
theorem q_when {b : Bool} (h : EvT t σ H b) (h1 : b = true → s1 { D with nx := s3 D } σ H) (h2 : b = false → s3 D σ H) : tSeq (tIfS t s1 tNext) s3 D σ H := s_if (D := { D with nx := s3 D }) h h1 h2
theorem s_when {b : Bool} (h : EvT t σ H b) (h1 : b = true → s1 D σ H) (h2 : b = false → D.nx σ H) : tIfS t s1 tNext D σ H := s_if h h1 h2
theorem s_drop (h : Ev te σ H v) (k : D.nx σ H) : tDrop te D σ H := h _ k
theorem q_seq (h : s1 { D with nx := s2 D } σ H) : tSeq s1 s2 D σ H := h
theorem s_app {l : Addr} {xs : List V} (hl : H l = some (.lst xs)) (hz : xs.length < sizeLine) (ha : Ev ta σ H (.ref l)) (h : Ev te σ H v) (k : D.nx σ (upd H l (.lst (xs ++ [v])))) : tDrop (tBM K "list" rAppend ta (tCons te tNil)) D σ H :=
  ha _ ⟨.inl ⟨rfl, xs, sq_at hl⟩, h _ ⟨l, xs, v, rfl, rfl, hl, hz, k⟩⟩
theorem q_app {l : Addr} {xs : List V} (hl : H l = some (.lst xs)) (hz : xs.length < sizeLine) (ha : Ev ta σ H (.ref l)) (h : Ev te σ H v) (k : s2 D σ (upd H l (.lst (xs ++ [v])))) : tSeq (tDrop (tBM K "list" rAppend ta (tCons te tNil))) s2 D σ H := s_app (D := { D with nx := s2 D }) hl hz ha h k
theorem s_ext {l b : Addr} {xs ys : List V} (hl : H l = some (.lst xs)) (hb : H b = some (.lst ys)) (hz : xs.length + ys.length ≤ sizeLine) (ha : Ev ta σ H (.ref l)) (h : Ev te σ H (.ref b)) (k : D.nx σ (upd H l (.lst (xs ++ ys)))) : tDrop (tBM K "list" rExtend ta (tCons te tNil)) D σ H :=
  ha _ ⟨.inl ⟨rfl, xs, sq_at hl⟩, h _ ⟨l, b, xs, ys, rfl, rfl, hl, hb, hz, k⟩⟩
theorem ixn {k j : Nat} (h : j < k) : ixN k (j : Int) = some j := by
  unfold ixN
  rw [if_pos (by omega), if_pos (by omega)]
  simp
theorem ixn0 {k : Nat} (h : 0 < k) : ixN k 0 = some 0 := ixn (j := 0) h
theorem ixn1 {k : Nat} (h : 1 < k) : ixN k 1 = some 1 := ixn (j := 1) h
theorem s_sub {l : Addr} {xs : List V} {jj : Int} {j : Nat} (hl : H l = some (.lst xs)) (e : ixN xs.length jj = some j) (h : Ev te σ H v) (ho : Ev ta σ H (.ref l)) (hi : Ev tb σ H (.int jj)) (k : D.nx σ (upd H l (.lst (xs.set j v)))) : tAsg te (gSub ta tb rSetL) D σ H :=
  h _ (ho _ (hi _ ⟨l, xs, jj, j, rfl, rfl, hl, e, k⟩))
theorem q_sub {l : Addr} {xs : List V} {jj : Int} {j : Nat} (hl : H l = some (.lst xs)) (e : ixN xs.length jj = some j) (h : Ev te σ H v) (ho : Ev ta σ H (.ref l)) (hi : Ev tb σ H (.int jj)) (k : s2 D σ (upd H l (.lst (xs.set j v)))) : tSeq (tAsg te (gSub ta tb rSetL)) s2 D σ H := s_sub (D := { D with nx := s2 D }) hl e h ho hi k
theorem s_aug {f : Int → Int → Int} {a b : Int} (h : Ev te σ H (.int b)) (k : D.nx (σ.set n (some (.int (f a b)))) H) (hx : σ[n]? = some (some (.int a)) := by rfl) : tAug n te (ipI f) D σ H := ⟨.int a, hx, h _ ⟨a, b, rfl, rfl, k⟩⟩
theorem q_aug {f : Int → Int → Int} {a b : Int} (h : Ev te σ H (.int b)) (k : s2 D (σ.set n (some (.int (f a b)))) H) (hx : σ[n]? = some (some (.int a)) := by rfl) : tSeq (tAug n te (ipI f)) s2 D σ H := s_aug (D := { D with nx := s2 D }) h k hx
theorem s_augC {C : Int → Int → Prop} {f : Int → Int → Int} {a b : Int} (h : Ev te σ H (.int b)) (k : D.nx (σ.set n (some (.int (f a b)))) H) (c : C a b) (hx : σ[n]? = some (some (.int a)) := by rfl) : tAug n te (ipC C f) D σ H := ⟨.int a, hx, h _ ⟨a, b, rfl, rfl, c, k⟩⟩
theorem q_augC {C : Int → Int → Prop} {f : Int → Int → Int} {a b : Int} (h : Ev te σ H (.int b)) (k : s2 D (σ.set n (some (.int (f a b)))) H) (c : C a b) (hx : σ[n]? = some (some (.int a)) := by rfl) : tSeq (tAug n te (ipC C f)) s2 D σ H := s_augC (D := { D with nx := s2 D }) h k c hx
/-! ### loops -/
theorem s_while (W : Nat → L2.St → Hp → Prop) (m0 : Nat) (h0 : W m0 σ H)
    (hs : ∀ m σ' H', W m σ' H' → ∃ b, EvT t σ' H' b ∧ (b = true → tu { D with nx := fun σ2 H2 => ∃ m', m' < m ∧ W m' σ2 H2, ct := fun σ2 H2 => ∃ m', m' < m ∧ W m' σ2 H2, bk := D.nx } σ' H') ∧ (b = false → D.nx σ' H')) : tWhile t tu D σ H :=
  ⟨W, ⟨m0, h0⟩, fun m σ' H' hw => by
    obtain ⟨b, hb, h1, h2⟩ := hs m σ' H' hw
    refine hb _ ?_
    cases b with
    | true => exact iteT ⟨_, fun σ2 H2 q => q, h1 rfl⟩
    | false => exact iteF (h2 rfl)⟩
theorem q_while (W : Nat → L2.St → Hp → Prop) (m0 : Nat) (h0 : W m0 σ H)
    (hs : ∀ m σ' H', W m σ' H' → ∃ b, EvT t σ' H' b ∧ (b = true → tu { D with nx := fun σ2 H2 => ∃ m', m' < m ∧ W m' σ2 H2, ct := fun σ2 H2 => ∃ m', m' < m ∧ W m' σ2 H2, bk := s2 D } σ' H') ∧ (b = false → s2 D σ' H')) : tSeq (tWhile t tu) s2 D σ H :=
  s_while (D := { D with nx := s2 D }) W m0 h0 hs
theorem s_forR1 {ta : TA} {k : Int} (h : EvA ta σ H [.int k]) (hk : -(2 ^ 62) ≤ k ∧ k < 2 ^ 62) (Pv : Nat → L2.St → Hp → Prop) (h0 : Pv 0 σ H)
    (hs : ∀ (i : Nat) σ' H', (i : Int) < k → Pv i σ' H' → tu { D with nx := Pv (i + 1), ct := Pv (i + 1), bk := D.nx } (σ'.set n (some (.int (i : Int)))) H') (hd : ∀ σ' H', Pv k.toNat σ' H' → D.nx σ' H') : tFor (iRng1 ta) (gName n) tu D σ H :=
  h _ ⟨k, rfl, hk.1, hk.2, for_range (lo := 0) (n := k.toNat) Pv h0 (fun i σ' H' hi p => by
    show tu { D with nx := Pv (i + 1), ct := Pv (i + 1), bk := D.nx } (σ'.set n (some (.int ((0 : Int) + (i : Int))))) H'
    rw [Int.zero_add]
    exact hs i σ' H' (by omega) p) hd⟩
theorem q_forR1 {ta : TA} {k : Int} (h : EvA ta σ H [.int k]) (hk : -(2 ^ 62) ≤ k ∧ k < 2 ^ 62) (Pv : Nat → L2.St → Hp → Prop) (h0 : Pv 0 σ H)
    (hs : ∀ (i : Nat) σ' H', (i : Int) < k → Pv i σ' H' → tu { D with nx := Pv (i + 1), ct := Pv (i + 1), bk := s2 D } (σ'.set n (some (.int (i : Int)))) H') (hd : ∀ σ' H', Pv k.toNat σ' H' → s2 D σ' H') : tSeq (tFor (iRng1 ta) (gName n) tu) s2 D σ H :=
  s_forR1 (D := { D with nx := s2 D }) h hk Pv h0 hs hd
theorem s_forR2 {ta : TA} {lo k : Int} (h : EvA ta σ H [.int lo, .int k]) (hk : -(2 ^ 62) ≤ lo ∧ lo < 2 ^ 62 ∧ -(2 ^ 62) ≤ k ∧ k < 2 ^ 62) (Pv : Nat → L2.St → Hp → Prop) (h0 : Pv 0 σ H)
    (hs : ∀ (i : Nat) σ' H', lo + (i : Int) < k → Pv i σ' H' → tu { D with nx := Pv (i + 1), ct := Pv (i + 1), bk := D.nx } (σ'.set n (some (.int (lo + (i : Int))))) H') (hd : ∀ σ' H', Pv (k - lo).toNat σ' H' → D.nx σ' H') : tFor (iRng2 ta) (gName n) tu D σ H :=
  h _ ⟨lo, k, rfl, hk, for_range (lo := lo) (n := (k - lo).toNat) Pv h0 (fun i σ' H' hi p => hs i σ' H' (by omega) p) hd⟩
theorem q_forR2 {ta : TA} {lo k : Int} (h : EvA ta σ H [.int lo, .int k]) (hk : -(2 ^ 62) ≤ lo ∧ lo < 2 ^ 62 ∧ -(2 ^ 62) ≤ k ∧ k < 2 ^ 62) (Pv : Nat → L2.St → Hp → Prop) (h0 : Pv 0 σ H)
    (hs : ∀ (i : Nat) σ' H', lo + (i : Int) < k → Pv i σ' H' → tu { D with nx := Pv (i + 1), ct := Pv (i + 1), bk := s2 D } (σ'.set n (some (.int (lo + (i : Int))))) H') (hd : ∀ σ' H', Pv (k - lo).toNat σ' H' → s2 D σ' H') : tSeq (tFor (iRng2 ta) (gName n) tu) s2 D σ H :=
  s_forR2 (D := { D with nx := s2 D }) h hk Pv h0 hs hd
/-- over a list of ints -/
theorem s_forI {a : Addr} {ns : List Int} (h : Ev tl σ H (.ref a)) (hx : SqL K H a (ns.map V.int)) (Pv : Nat → L2.St → Hp → Prop) (h0 : Pv 0 σ H) (hl : ∀ i σ' H', i ≤ ns.length → Pv i σ' H' → SqL K H' a (ns.map V.int))
    (hs : ∀ i x σ' H', ns[i]? = some x → Pv i σ' H' → tu { D with nx := Pv (i + 1), ct := Pv (i + 1), bk := D.nx } (σ'.set n (some (.int x))) H') (hd : ∀ σ' H', Pv ns.length σ' H' → D.nx σ' H') : tFor (iList K tl) (gName n) tu D σ H :=
  h _ ⟨a, rfl, ⟨_, hx⟩, for_list (xs := ns.map V.int) Pv h0 (fun i σ' H' hi p => hl i σ' H' (by simpa using hi) p) (fun i x σ' H' hi p => by
    rw [List.getElem?_map] at hi
    cases e : ns[i]? with
    | none => rw [e] at hi; cases hi
    | some y => rw [e] at hi; cases hi; exact hs i y σ' H' e p) (fun σ' H' p => hd σ' H' (by simpa using p))⟩
theorem q_forI {a : Addr} {ns : List Int} (h : Ev tl σ H (.ref a)) (hx : SqL K H a (ns.map V.int)) (Pv : Nat → L2.St → Hp → Prop) (h0 : Pv 0 σ H) (hl : ∀ i σ' H', i ≤ ns.length → Pv i σ' H' → SqL K H' a (ns.map V.int))
    (hs : ∀ i x σ' H', ns[i]? = some x → Pv i σ' H' → tu { D with nx := Pv (i + 1), ct := Pv (i + 1), bk := s2 D } (σ'.set n (some (.int x))) H') (hd : ∀ σ' H', Pv ns.length σ' H' → s2 D σ' H') : tSeq (tFor (iList K tl) (gName n) tu) s2 D σ H :=
  s_forI (D := { D with nx := s2 D }) h hx Pv h0 hl hs hd
/-- over a new list of ints -/
theorem s_forN {ns : List Int} (h : EvL tl σ H (ns.map V.int)) (Pv : Addr → Nat → L2.St → Hp → Prop) (h0 : ∀ p, H p = none → Pv p 0 σ (upd H p (.lst (ns.map V.int)))) (hl : ∀ p i σ' H', H p = none → i ≤ ns.length → Pv p i σ' H' → SqL K H' p (ns.map V.int))
    (hs : ∀ p i x σ' H', H p = none → ns[i]? = some x → Pv p i σ' H' → tu { D with nx := Pv p (i + 1), ct := Pv p (i + 1), bk := D.nx } (σ'.set n (some (.int x))) H') (hd : ∀ p σ' H', H p = none → Pv p ns.length σ' H' → D.nx σ' H') : tFor (iList K tl) (gName n) tu D σ H :=
  h _ fun p hp => ⟨p, rfl, ⟨_, sq_up⟩, for_list (xs := ns.map V.int) (Pv p) (h0 p hp) (fun i σ' H' hi q => hl p i σ' H' hp (by simpa using hi) q) (fun i x σ' H' hi q => by
    rw [List.getElem?_map] at hi
    cases e : ns[i]? with
    | none => rw [e] at hi; cases hi
    | some y => rw [e] at hi; cases hi; exact hs p i y σ' H' hp e q) (fun σ' H' q => hd p σ' H' hp (by simpa using q))⟩
theorem q_forN {ns : List Int} (h : EvL tl σ H (ns.map V.int)) (Pv : Addr → Nat → L2.St → Hp → Prop) (h0 : ∀ p, H p = none → Pv p 0 σ (upd H p (.lst (ns.map V.int)))) (hl : ∀ p i σ' H', H p = none → i ≤ ns.length → Pv p i σ' H' → SqL K H' p (ns.map V.int))
    (hs : ∀ p i x σ' H', H p = none → ns[i]? = some x → Pv p i σ' H' → tu { D with nx := Pv p (i + 1), ct := Pv p (i + 1), bk := s2 D } (σ'.set n (some (.int x))) H') (hd : ∀ p σ' H', H p = none → Pv p ns.length σ' H' → s2 D σ' H') : tSeq (tFor (iList K tl) (gName n) tu) s2 D σ H :=
  s_forN (D := { D with nx := s2 D }) h Pv h0 hl hs hd
/-! ### comprehensions -/
/-- over a list: D the new one; the heap in the turns -/
theorem el_lc {a : Addr} {xs : List V} {vs : List Nat} (p : V → Bool) (f : V → V) (h : Ev tl σ H (.ref a)) (hx : SqL K H a xs) (hz : xs.length ≤ sizeLine) (hw : ∀ x, wipe ((wipe σ vs).set n (some x)) vs = wipe σ vs)
    (ht : ∀ x ∈ xs, ∀ D acc, H D = none → EvT t ((wipe σ vs).set n (some x)) (upd H D (.lst acc)) (p x)) (he : ∀ x ∈ xs, p x = true → ∀ D acc, H D = none → Ev te ((wipe σ vs).set n (some x)) (upd H D (.lst acc)) (f x)) :
    EvL (tLc (iList K tl) (gName n) t te vs) σ H ((xs.filter p).map f) := fun Q q => h _ ⟨a, rfl, ⟨xs, hx⟩, fun D hD =>
  lc_list (xs := xs) (fun i H' => H' = upd H D (.lst (((xs.take i).filter p).map f))) (by simp) (fun i H' _ e => by subst e; exact sq_new hD hx) (fun i x H' hi e => by
    subst e
    have hm : x ∈ xs := List.mem_of_getElem? hi
    have hlt : i < xs.length := (List.getElem?_eq_some_iff.mp hi).1
    have et : xs.take (i + 1) = xs.take i ++ [x] := by rw [List.take_add_one, hi]; rfl
    refine ⟨hw x, ht x hm D _ hD _ ?_⟩
    cases hp : p x with
    | true =>
      refine iteT (he x hm hp D _ hD _ ⟨_, upd_same, ?_, ?_⟩)
      · rw [List.length_map]
        refine Nat.lt_of_le_of_lt (List.length_filter_le _ _) ?_
        rw [List.length_take]
        omega
      · rw [upd_upd, et, List.filter_append, List.map_append, List.filter_cons, if_pos hp]; rfl
    | false =>
      refine iteF ?_
      rw [et, List.filter_append, List.map_append, List.filter_cons, if_neg (by rw [hp]; decide)]
      simp) (fun H' e => by subst e; rw [List.take_length]; exact q D hD)⟩
/-- over a new list -/
theorem el_lcN [Nod H] {xs : List V} {vs : List Nat} (p : V → Bool) (f : V → V) (h : EvL tl σ H xs) (hz : xs.length ≤ sizeLine) (hw : ∀ x, wipe ((wipe σ vs).set n (some x)) vs = wipe σ vs)
    (ht : ∀ x ∈ xs, ∀ q D acc, H q = none → H D = none → q ≠ D → EvT t ((wipe σ vs).set n (some x)) (upd (upd H q (.lst xs)) D (.lst acc)) (p x)) (he : ∀ x ∈ xs, p x = true → ∀ q D acc, H q = none → H D = none → q ≠ D → Ev te ((wipe σ vs).set n (some x)) (upd (upd H q (.lst xs)) D (.lst acc)) (f x)) :
    EvL (tFg (tLc (iList K tl) (gName n) t te vs)) σ H ((xs.filter p).map f) := el_fg fun Q q => by
  refine h _ fun r hr => ?_
  refine el_lc (K := K) (H := upd H r (.lst xs)) (tl := fun _ H Q => Q (.ref r) H) p f (fun _ z => z) sq_up hz hw (fun x hx D acc hD => ?_) (fun x hx hp D acc hD => ?_) _ fun D hD => ?_
  · obtain ⟨h1, h2⟩ := none_upd hD
    exact ht x hx r D acc hr h1 (Ne.symm h2)
  · obtain ⟨h1, h2⟩ := none_upd hD
    exact he x hx hp r D acc hr h1 (Ne.symm h2)
  · obtain ⟨h1, h2⟩ := none_upd hD
    exact q D _ h1 (ex_upd h1 (ex_new hr)) upd_same
/-- over range(k), range(lo, k) -/
theorem el_lcR1 {ta : TA} {k : Int} {vs : List Nat} (p : Int → Bool) (f : Int → V) (h : EvA ta σ H [.int k]) (hk : -(2 ^ 62) ≤ k ∧ k ≤ 16777216) (hw : ∀ x, wipe ((wipe σ vs).set n (some x)) vs = wipe σ vs)
    (ht : ∀ i : Int, 0 ≤ i → i < k → ∀ D acc, H D = none → EvT t ((wipe σ vs).set n (some (.int i))) (upd H D (.lst acc)) (p i)) (he : ∀ i : Int, 0 ≤ i → i < k → p i = true → ∀ D acc, H D = none → Ev te ((wipe σ vs).set n (some (.int i))) (upd H D (.lst acc)) (f i)) :
    EvL (tLc (iRng1 ta) (gName n) t te vs) σ H ((((List.range k.toNat).map Int.ofNat).filter p).map f) := fun Q q => h _ ⟨k, rfl, hk.1, by omega, fun D hD =>
  lc_range (lo := 0) (n := k.toNat) (fun i H' => H' = upd H D (.lst ((((List.range i).map Int.ofNat).filter p).map f))) (by simp) (fun i H' hi e => by
    subst e
    show wipe ((wipe σ vs).set n (some (.int (0 + (i : Int))))) vs = wipe σ vs ∧ t ((wipe σ vs).set n (some (.int (0 + (i : Int))))) _ _
    rw [Int.zero_add]
    refine ⟨hw _, ht i (by omega) (by omega) D _ hD _ ?_⟩
    rw [List.range_succ, List.map_append, List.filter_append, List.map_append]
    have hlen : ((((List.range i).map Int.ofNat).filter p).map f).length < sizeLine := by
      rw [List.length_map]
      refine Nat.lt_of_le_of_lt (List.length_filter_le _ _) ?_
      rw [List.length_map, List.length_range]
      have : sizeLine = 16777216 := by decide
      omega
    cases hp : p (i : Int) with
    | true =>
      refine iteT (he i (by omega) (by omega) hp D _ hD _ ⟨_, upd_same, hlen, ?_⟩)
      rw [upd_upd]
      congr 2
      simp [hp]
    | false =>
      refine iteF ?_
      congr 2
      simp [hp]) (fun H' e => by subst e; exact q D hD)⟩
end
end Px
set_option Elab.async false
set_option linter.all false
set_option maxRecDepth 100000
set_option maxHeartbeats 4000000
namespace Px
open PySem L2
/-- text * int -/
abbrev oRepS : R2 := fun x y H Q => ∃ z n, x = .str z ∧ y = .int n ∧ MulOk z n ∧ Q (.str (Txt.mul z n)) H
theorem op_repS {X : Cx} : OpR X (binaryOp .Mult) oRepS := by
  intro pins s σ H x y v u Q I rx ry h
  obtain ⟨z, n, rfl, rfl, ok, q⟩ := h
  obtain ⟨t, rfl⟩ := rx
  obtain ⟨t', rfl⟩ := ry
  exact SB.mul ok fun t1 k => ⟨.str _, H, I.tok _, ⟨_, rfl⟩, q⟩
/-- a def of the text, by its name: it keeps its promise -/
structure Fn (P : Program) (w : World) (K : PySem.W.Frag) (mg : Str → Option Value) (base : Heap) (x : Str) (k : Nat) (ps : List Str) (sp : Sp) : Prop where
  ex : ∃ (f : Addr) (fd : FuncData), FnOk P w K mg base CX0 k f fd ps sp ∧ mg x = some (.ref f) ∧ PySem.W.keepIn K (.ref f) = true ∧ Binds K fd ps []
theorem pe_fn {X : Cx} {k : Nat} {ps : List Str} {sp : Sp} {x : Str} {p pos : Pos} {e : Expr} {es : List Expr} {t : TA} (F : Fn X.prog X.w X.K X.mg X.base x k ps sp) (hr : Room k X.A) (ha : PA X (e :: es) t) (hg : Gl X x := by rfl)
    (hdb : (x == ("__debug__" : Str)) = false := by decide) (he : starEach (e :: es) X.env = (false, eval e X.env) :: starEach es X.env := by rfl) (hpl : (backTo pos (starEach es X.env)).any (·.1) = false := by rfl) :
    PE X (.Call (.Name x p) (e :: es) [] pos) (tCall sp [] E0 t) := by
  obtain ⟨f, fd, F1, g, kp, b⟩ := F.ex
  exact pe_call F1 hr hg g kp b .nil pass0 ha hdb he hpl
abbrev FnP (K : PySem.W.Frag) (x : Str) (st : Stmt) (f : Addr) (fd : FuncData) : Prop := FunD K x x (defArgs st) (defBody st) (defScope st) [] [] f fd
end Px
set_option Elab.async false
set_option linter.all false
set_option maxRecDepth 100000
set_option maxHeartbeats 4000000
namespace Px
open PySem L2
theorem cm {i j : Int} (h : -(2 ^ 200) < i ∧ i < 2 ^ 200 ∧ -(2 ^ 200) < j ∧ j < 2 ^ 200) : CMulW i j := by
  refine wide_mul (a := 200) (b := 200) ?_ ?_ (by decide) (by decide) (by decide)
  · have : i.natAbs < 2 ^ 200 := by omega
    exact this
  · have : j.natAbs < 2 ^ 200 := by omega
    exact this
theorem cd {i j : Int} (h : 0 < j ∧ j < 2 ^ 200) : CDivW i j := by
  refine wide_div (b := 200) h.1 ?_ (by decide) (by decide)
  have : j.natAbs < 2 ^ 200 := by omega
  exact this
theorem cp {i j : Int} (h : 0 ≤ j ∧ j ≤ 1000 ∧ -(2 ^ 60) < i ∧ i < 2 ^ 60) : CPow i j := by
  refine ⟨h.1, ?_, ?_⟩
  · omega
  · have : i.natAbs < 2 ^ 64 := by omega
    exact this
theorem fg_body {t : TS} {D : Ends} {σ : L2.St} {H : Hp} (h : t { nx := fun σ' H' => ∃ H'', Fg H H' H'' ∧ D.nx σ' H'', rt := fun v H' => ∃ H'', Fg H H' H'' ∧ D.rt v H'', bk := fun σ' H' => ∃ H'', Fg H H' H'' ∧ D.bk σ' H'', ct := fun σ' H' => ∃ H'', Fg H H' H'' ∧ D.ct σ' H'' } σ H) : sFg t D σ H := h
theorem upd_self {H : Hp} {a : Addr} {o : HO} (h : H a = some o) : upd H a o = H := by
  funext b
  unfold upd
  split
  · rename_i e; rw [e, h]
  · rfl
theorem upd_comm {H : Hp} {a b : Addr} {o u : HO} (h : a ≠ b) : upd (upd H a o) b u = upd (upd H b u) a o := by
  funext c
  unfold upd
  by_cases h1 : c = b
  · rw [if_pos h1, if_neg (by rw [h1]; exact Ne.symm h), if_pos h1]
  · rw [if_neg h1, if_neg h1]
theorem dp_ints {K : PySem.W.Frag} {H : Hp} : ∀ ns : List Int, DpAll K H (ns.map V.int) (ns.map PyData.int)
  | [] => .nil
  | n :: r => .cons (.int n) (dp_ints r)
theorem lay_ints : ∀ ns : List Int, PyData.canLayAll0 (ns.map PyData.int) = true
  | [] => by simp [PyData.canLayAll0]
  | n :: r => by simp [PyData.canLayAll0, PyData.canLay0, lay_ints r]
theorem dep_ints : ∀ ns : List Int, PyData.depthAll (ns.map PyData.int) = 0
  | [] => by simp [PyData.depthAll]
  | n :: r => by simp [PyData.depthAll, PyData.depth, dep_ints r]
theorem shaped_ints (ns : List Int) : SeqAt.shaped (.list (ns.map PyData.int)) = true := by
  unfold SeqAt.shaped
  rw [PyData.canLay0, lay_ints, PyData.depth, dep_ints]
  decide
theorem shaped_nil : SeqAt.shaped (.list []) = true := shaped_ints []
theorem eqv_ints : ∀ ns ms : List Int, PyData.eqvAll (ns.map PyData.int) (ms.map PyData.int) = decide (ns = ms)
  | [], [] => by simp [PyData.eqvAll]
  | [], m :: ms => by simp [PyData.eqvAll]
  | n :: ns, [] => by simp [PyData.eqvAll]
  | n :: ns, m :: ms => by
    simp only [List.map_cons, PyData.eqvAll, PyData.eqv, eqv_ints ns ms]
    by_cases h : n = m
    · subst h; by_cases h2 : ns = ms
      · subst h2; simp
      · simp [h2]
    · simp [h]
section
variable {K : PySem.W.Frag} {σ : L2.St} {H : Hp} {ta tb te : TE} {a b : Addr} {ns ms : List Int}
theorem dp_lst (h : SqL K H a (ns.map V.int)) : Dp K H (.ref a) (.list (ns.map PyData.int)) := .lst h (dp_ints ns)
theorem rv_eqI (ha : SqL K H a (ns.map V.int)) (hb : SqL K H b (ms.map V.int)) : RV (rEqD K) (.ref a) (.ref b) H (.bl (decide (ns = ms))) := fun Q q =>
  ⟨_, _, dp_lst ha, dp_lst hb, shaped_ints ns, shaped_ints ms, by rw [PyData.eqv, eqv_ints]; exact q⟩
theorem rv_neI (ha : SqL K H a (ns.map V.int)) (hb : SqL K H b (ms.map V.int)) : RV (rNeD K) (.ref a) (.ref b) H (.bl (!decide (ns = ms))) := fun Q q =>
  ⟨_, _, dp_lst ha, dp_lst hb, shaped_ints ns, shaped_ints ms, by rw [PyData.eqv, eqv_ints]; exact q⟩
/-- xs == [] and xs != [], the empty list made on the way -/
theorem et_isnil [Nod H] (hx : SqL K H a (ns.map V.int)) (ha : Ev ta σ H (.ref a)) : EvT (bFg (tTest (tOp (rEqD K) ta (tLst tNil)))) σ H (decide (ns = [])) :=
  et_fg fun Q q => ha _ (el_nil _ fun p hp => rv_eqI (ms := []) (sq_new hp hx) sq_up _ ⟨_, rfl, q _ (ex_new hp)⟩)
theorem et_nonil [Nod H] (hx : SqL K H a (ns.map V.int)) (ha : Ev ta σ H (.ref a)) : EvT (bFg (tTest (tOp (rNeD K) ta (tLst tNil)))) σ H (!decide (ns = [])) :=
  et_fg fun Q q => ha _ (el_nil _ fun p hp => rv_neI (ms := []) (sq_new hp hx) sq_up _ ⟨_, rfl, q _ (ex_new hp)⟩)
/-- a list made on the way, == [] and != [] -/
theorem et_isnilN [Nod H] (h : EvL ta σ H (ns.map V.int)) : EvT (bFg (tTest (tOp (rEqD K) ta (tLst tNil)))) σ H (decide (ns = [])) :=
  et_fg fun Q q => h _ fun r hr => el_nil _ fun p hp => rv_eqI (ms := []) (sq_new hp sq_up) sq_up _ ⟨_, rfl, q _ (ex_upd (none_upd hp).1 (ex_new hr))⟩
theorem et_nonilN [Nod H] (h : EvL ta σ H (ns.map V.int)) : EvT (bFg (tTest (tOp (rNeD K) ta (tLst tNil)))) σ H (!decide (ns = [])) :=
  et_fg fun Q q => h _ fun r hr => el_nil _ fun p hp => rv_neI (ms := []) (sq_new hp sq_up) sq_up _ ⟨_, rfl, q _ (ex_upd (none_upd hp).1 (ex_new hr))⟩
/-- a call of a def that leaves the heap as it is -/
theorem ev_call {sp : Sp} {vs : List V} {v : V} {E : XK} {t : TA} (h : EvA t σ H vs) (hs : ∀ Q : VK, Q v H → sp vs H Q E) : Ev (tCall sp [] E t) σ H v := fun Q q => h _ (by
  show sp (vs ++ []) H Q E
  rw [List.append_nil]
  exact hs Q q)
theorem el_call {sp : Sp} {vs xs : List V} {E : XK} {t : TA} (h : EvA t σ H vs) (hs : ∀ Q : VK, (∀ p, H p = none → Q (.ref p) (upd H p (.lst xs))) → sp vs H Q E) : EvL (tCall sp [] E t) σ H xs := fun Q q => h _ (by
  show sp (vs ++ []) H Q E
  rw [List.append_nil]
  exact hs Q q)
theorem w_call {sp : Sp} {vs : List V} {E : XK} {t : TA} {Q : VK} (h : EvA t σ H vs) (hs : sp vs H Q E) : tCall sp [] E t σ H Q := h _ (by
  show sp (vs ++ []) H Q E
  rw [List.append_nil]
  exact hs)
end
end Px
set_option Elab.async false
set_option linter.all false
set_option maxRecDepth 100000
set_option maxHeartbeats 4000000
namespace Px
open PySem L2
section
variable {K : PySem.W.Frag} {σ : L2.St} {H : Hp} {ta tb te : TE} {l b : Addr} {ns ms : List Int} {x : Int} {D : Ends} {s2 : TS}
theorem sz (n : Nat) (h : n < 16000000) : n < sizeLine := Nat.lt_of_lt_of_le h (by decide)
theorem s_appI (hz : ns.length < 16000000) (ha : Ev ta σ (upd H l (.lst (ns.map V.int))) (.ref l)) (h : Ev te σ (upd H l (.lst (ns.map V.int))) (.int x)) (k : D.nx σ (upd H l (.lst ((ns ++ [x]).map V.int)))) : tDrop (tBM K "list" rAppend ta (tCons te tNil)) D σ (upd H l (.lst (ns.map V.int))) :=
  s_app upd_same (by rw [List.length_map]; exact sz _ hz) ha h (by rw [upd_upd]; rw [List.map_append] at k; exact k)
theorem q_appI (hz : ns.length < 16000000) (ha : Ev ta σ (upd H l (.lst (ns.map V.int))) (.ref l)) (h : Ev te σ (upd H l (.lst (ns.map V.int))) (.int x)) (k : s2 D σ (upd H l (.lst ((ns ++ [x]).map V.int)))) : tSeq (tDrop (tBM K "list" rAppend ta (tCons te tNil))) s2 D σ (upd H l (.lst (ns.map V.int))) :=
  s_appI (D := { D with nx := s2 D }) hz ha h k
theorem s_retW {D : Ends} (h : te σ H D.rt) : tRet te D σ H := h
theorem w_op {r : R2} {Q : VK} (h : ta σ H fun x H1 => tb σ H1 fun y H2 => r x y H2 Q) : tOp r ta tb σ H Q := h
theorem w_cb {r : List V → Hp → VK → Prop} {t : TA} {Q : VK} (h : t σ H fun vs H1 => r vs H1 Q) : tCB r t σ H Q := h
theorem w_cons {t : TA} {Q : List V → Hp → Prop} (h : ta σ H fun x H1 => t σ H1 fun xs H2 => Q (x :: xs) H2) : tCons ta t σ H Q := h
theorem w_one {Q : List V → Hp → Prop} (h : ta σ H fun x H1 => Q [x] H1) : tCons ta tNil σ H Q := h
theorem w_ev {v : V} {Q : VK} (h : Ev te σ H v) (q : Q v H) : te σ H Q := h Q q
theorem w_lst {t : TA} {Q : VK} (h : t σ H fun xs H1 => xs.length ≤ sizeLine ∧ ∀ p, H1 p = none → Q (.ref p) (upd H1 p (.lst xs))) : tLst t σ H Q := h
theorem w_fg {Q : VK} (h : te σ H fun v H' => ∃ H'', Fg H H' H'' ∧ Q v H'') : tFg te σ H Q := h
theorem w_pop0 {x : V} {xs : List V} {a : Addr} {Q : VK} (ha : Ev ta σ H (.ref a)) (hx : H a = some (.lst (x :: xs))) (q : Q x (upd H a (.lst xs))) : tBM K "list" rPopAt ta (tCons (tC (.int 0)) tNil) σ H Q :=
  ha _ ⟨.inl ⟨rfl, _, sq_at hx⟩, a, x :: xs, 0, 0, x, rfl, rfl, hx, by decide, by decide, by unfold seqIndex?; simp, rfl, q⟩
theorem fg_newL {H H' : Hp} {p : Addr} {xs : List V} [n : Nod H] (hp : H p = none) (e : Ex H H') (h : H' p = some (.lst xs)) : Fg H H' (upd H p (.lst xs)) := fg_new trivial hp e h
theorem fg_mutL {H H' : Hp} {p : Addr} {xs ys : List V} [n : Nod H] (hp : H p = some (.lst xs)) (e : ∀ a u, a ≠ p → H a = some u → H' a = some u) (h : H' p = some (.lst ys)) : Fg H H' (upd H p (.lst ys)) := fg_mut trivial hp e h
theorem fg_mut_newL {H H' : Hp} {l p : Addr} {xs ys zs : List V} [n : Nod H] (hl : H l = some (.lst xs)) (hp : H p = none) (e : ∀ a u, a ≠ l → H a = some u → H' a = some u) (h : H' l = some (.lst ys)) (h2 : H' p = some (.lst zs)) : Fg H H' (upd (upd H l (.lst ys)) p (.lst zs)) := fg_mut_new trivial trivial hl hp e h h2
theorem cutV_int (ns : List Int) (lo hi : Option Int) : cutV (ns.map V.int) lo hi = ((ns.drop (HT.sIx ns.length 0 lo)).take (HT.sIx ns.length ns.length hi - HT.sIx ns.length 0 lo)).map V.int := by
  unfold cutV
  rw [List.length_map, List.map_take, List.map_drop]
theorem cut_to (ns : List Int) (k : Nat) : cutV (ns.map V.int) none (some (k : Int)) = (ns.take k).map V.int := by
  rw [cutV_int, HT.sIx_none, HT.sIx_nat]
  simp
theorem cut_from (ns : List Int) (k : Nat) : cutV (ns.map V.int) (some (k : Int)) none = (ns.drop k).map V.int := by
  rw [cutV_int, HT.sIx_none, HT.sIx_nat]
  by_cases h : k ≤ ns.length
  · rw [show min k ns.length = k by omega, List.take_of_length_le (by simp)]
  · rw [show min k ns.length = ns.length by omega, List.drop_of_length_le (Nat.le_refl _), List.drop_of_length_le (by omega)]
    simp
end
end Px
set_option Elab.async false
set_option linter.all false
set_option maxRecDepth 100000
set_option maxHeartbeats 4000000
namespace Px
open PySem L2
/-- what a for asks, once what it walks is known -/
def Lp (J : It) (g : TG) (tb : TS) (D : Ends) (σ : L2.St) (H1 : Hp) : Prop := ∃ W : Nat → Nat → L2.St → Hp → Prop, (∃ m, W 0 m σ H1) ∧ ∀ i m σ H, W i m σ H →
  (J.stop i H ∧ D.nx σ H) ∨ (J.go i H ∧ ∃ N : L2.St → Hp → Prop, (∀ σ' H', N σ' H' → ∃ m', m' < m ∧ W (i + 1) m' σ' H') ∧ ∀ x H', J.yld i H x H' → g x σ H' fun σ2 H2 => tb { D with nx := N, ct := N, bk := D.nx } σ2 H2)
section
variable {K : PySem.W.Frag} {σ : L2.St} {H : Hp} {D : Ends} {g : TG} {tu s2 : TS} {n : Nat}
theorem w_forR1 {ta : TA} (h : ta σ H fun vs H1 => ∃ j : Int, vs = [.int j] ∧ -(2 ^ 62) ≤ j ∧ j < 2 ^ 62 ∧ Lp (Itr 0 j.toNat) g tu D σ H1) : tFor (iRng1 ta) g tu D σ H := h
theorem w_forR2 {ta : TA} (h : ta σ H fun vs H1 => ∃ i j : Int, vs = [.int i, .int j] ∧ (-(2 ^ 62) ≤ i ∧ i < 2 ^ 62 ∧ -(2 ^ 62) ≤ j ∧ j < 2 ^ 62) ∧ Lp (Itr i (j - i).toNat) g tu D σ H1) : tFor (iRng2 ta) g tu D σ H := h
theorem w_forL {tl : TE} (h : tl σ H fun x H1 => ∃ a, x = .ref a ∧ (∃ xs, SqL K H1 a xs) ∧ Lp (Itl K a) g tu D σ H1) : tFor (iList K tl) g tu D σ H := h
theorem w_forT {tl : TE} (h : tl σ H fun x H1 => ∃ a, x = .ref a ∧ (∃ xs, SqT K H1 a xs) ∧ Lp (Itt K a) g tu D σ H1) : tFor (iTup K tl) g tu D σ H := h
theorem w_forE {ta : TA} (h : ta σ H fun vs H1 => ∃ a xs, vs = [.ref a] ∧ SqL K H1 a xs ∧ Lp (Ite K a) g tu D σ H1) : tFor (iEnum K ta) g tu D σ H := h
theorem w_forZ {ta : TA} (h : ta σ H fun vs H1 => ∃ a b xs ys, vs = [.ref a, .ref b] ∧ SqL K H1 a xs ∧ SqL K H1 b ys ∧ Lp (Itz K a b) g tu D σ H1) : tFor (iZip K ta) g tu D σ H := h
theorem lp_range {k : Nat} (Pv : Nat → L2.St → Hp → Prop) (h0 : Pv 0 σ H)
    (hs : ∀ (i : Nat) σ' H', i < k → Pv i σ' H' → tu { D with nx := Pv (i + 1), ct := Pv (i + 1), bk := D.nx } (σ'.set n (some (.int (i : Int)))) H') (hd : ∀ σ' H', Pv k σ' H' → D.nx σ' H') : Lp (Itr 0 k) (gName n) tu D σ H :=
  for_range (lo := 0) (n := k) Pv h0 (fun i σ' H' hi p => by
    show tu { D with nx := Pv (i + 1), ct := Pv (i + 1), bk := D.nx } (σ'.set n (some (.int ((0 : Int) + (i : Int))))) H'
    rw [Int.zero_add]
    exact hs i σ' H' hi p) hd
theorem lp_list {a : Addr} {xs : List V} (Pv : Nat → L2.St → Hp → Prop) (h0 : Pv 0 σ H) (hl : ∀ i σ' H', i ≤ xs.length → Pv i σ' H' → SqL K H' a xs)
    (hs : ∀ i x σ' H', xs[i]? = some x → Pv i σ' H' → g x σ' H' fun σ2 H2 => tu { D with nx := Pv (i + 1), ct := Pv (i + 1), bk := D.nx } σ2 H2) (hd : ∀ σ' H', Pv xs.length σ' H' → D.nx σ' H') : Lp (Itl K a) g tu D σ H := for_list Pv h0 hl hs hd
theorem lp_tup {a : Addr} {xs : List V} (Pv : Nat → L2.St → Hp → Prop) (h0 : Pv 0 σ H) (hl : ∀ i σ' H', i ≤ xs.length → Pv i σ' H' → SqT K H' a xs)
    (hs : ∀ i x σ' H', xs[i]? = some x → Pv i σ' H' → g x σ' H' fun σ2 H2 => tu { D with nx := Pv (i + 1), ct := Pv (i + 1), bk := D.nx } σ2 H2) (hd : ∀ σ' H', Pv xs.length σ' H' → D.nx σ' H') : Lp (Itt K a) g tu D σ H := for_tup Pv h0 hl hs hd
/-- for k, x in enumerate(xs): two names -/
theorem lp_enum {a : Addr} {xs : List V} {n1 n2 : Nat} (Pv : Nat → L2.St → Hp → Prop) (h0 : Pv 0 σ H) (hl : ∀ i σ' H', i ≤ xs.length → Pv i σ' H' → SqL K H' a xs)
    (hs : ∀ i x σ' H' T, xs[i]? = some x → Pv i σ' H' → H' T = none → tu { D with nx := Pv (i + 1), ct := Pv (i + 1), bk := D.nx } ((σ'.set n1 (some (.int (i : Int)))).set n2 (some x)) (upd H' T (.tup [.int (i : Int), x]))) (hd : ∀ σ' H', Pv xs.length σ' H' → D.nx σ' H') :
    Lp (Ite K a) (gTup K 2 (gCons (gName n1) (gCons (gName n2) gNil))) tu D σ H :=
  for_it (walk_enum (K := K) (a := a) (xs := xs)) Pv h0 hl (fun i v σ' H' H'' hi p y => by
    obtain ⟨T, x, y, rfl, hT, rfl, e1, e2⟩ := y
    cases e1
    exact ⟨T, _, rfl, st_at upd_same, rfl, _, _, rfl, _, _, rfl, rfl, hs i y σ' H' T e2 p hT⟩) hd
/-- for x, y in zip(xs, ys): two names -/
theorem lp_zip {a b : Addr} {xs ys : List V} {n1 n2 : Nat} (Pv : Nat → L2.St → Hp → Prop) (h0 : Pv 0 σ H) (hl : ∀ i σ' H', i ≤ min xs.length ys.length → Pv i σ' H' → SqL K H' a xs ∧ SqL K H' b ys)
    (hs : ∀ i x y σ' H' T, xs[i]? = some x → ys[i]? = some y → Pv i σ' H' → H' T = none → tu { D with nx := Pv (i + 1), ct := Pv (i + 1), bk := D.nx } ((σ'.set n1 (some x)).set n2 (some y)) (upd H' T (.tup [x, y]))) (hd : ∀ σ' H', Pv (min xs.length ys.length) σ' H' → D.nx σ' H') :
    Lp (Itz K a b) (gTup K 2 (gCons (gName n1) (gCons (gName n2) gNil))) tu D σ H :=
  for_it (walk_zip (K := K) (a := a) (b := b) (xs := xs) (ys := ys) rfl) Pv h0 hl (fun i v σ' H' H'' hi p y => by
    obtain ⟨T, x, y, rfl, hT, rfl, e1, e2⟩ := y
    exact ⟨T, _, rfl, st_at upd_same, rfl, _, _, rfl, _, _, rfl, rfl, hs i x y σ' H' T e1 e2 p hT⟩) hd
end
end Px
set_option Elab.async false
set_option linter.all false
set_option maxRecDepth 100000
set_option maxHeartbeats 4000000
namespace Px
open PySem L2
def pV (p : Int → Bool) : V → Bool
  | .int i => p i
  | _ => false
def fV (f : Int → Int) : V → V
  | .int i => .int (f i)
  | v => v
theorem filt_int (p : Int → Bool) (f : Int → Int) (ns : List Int) : ((ns.map V.int).filter (pV p)).map (fV f) = ((ns.filter p).map f).map V.int := by
  induction ns with
  | nil => rfl
  | cons a l ih =>
    simp only [List.map_cons, List.filter_cons]
    show (List.map (fV f) (if pV p (V.int a) = true then V.int a :: List.filter (pV p) (l.map V.int) else List.filter (pV p) (l.map V.int))) = _
    have e : pV p (V.int a) = p a := rfl
    rw [e]
    by_cases h : p a = true
    · rw [if_pos h, if_pos h]
      simp only [List.map_cons, ih]
      rfl
    · rw [if_neg h, if_neg h]
      exact ih
section
variable {K : PySem.W.Frag} {σ : L2.St} {H : Hp} {tl te : TE} {t : TT} {n : Nat}
theorem mem_int {ns : List Int} {x : V} (h : x ∈ ns.map V.int) : ∃ i ∈ ns, x = .int i := by
  obtain ⟨i, hi, rfl⟩ := List.mem_map.mp h
  exact ⟨i, hi, rfl⟩
/-- [f(i) for i in ns if p(i)], ints to ints -/
theorem el_lcI {a : Addr} {ns : List Int} {vs : List Nat} (p : Int → Bool) (f : Int → Int) (h : Ev tl σ H (.ref a)) (hx : SqL K H a (ns.map V.int)) (hz : ns.length ≤ 16000000) (hw : ∀ x, wipe ((wipe σ vs).set n (some x)) vs = wipe σ vs)
    (ht : ∀ i ∈ ns, ∀ D acc, H D = none → EvT t ((wipe σ vs).set n (some (.int i))) (upd H D (.lst acc)) (p i)) (he : ∀ i ∈ ns, p i = true → ∀ D acc, H D = none → Ev te ((wipe σ vs).set n (some (.int i))) (upd H D (.lst acc)) (.int (f i))) :
    EvL (tLc (iList K tl) (gName n) t te vs) σ H (((ns.filter p).map f).map V.int) := by
  rw [← filt_int]
  refine el_lc (pV p) (fV f) h hx (by rw [List.length_map]; exact Nat.le_trans hz (by decide)) hw (fun x hx D acc hD => ?_) (fun x hx hp D acc hD => ?_)
  · obtain ⟨i, hi, rfl⟩ := mem_int hx
    exact ht i hi D acc hD
  · obtain ⟨i, hi, rfl⟩ := mem_int hx
    exact he i hi hp D acc hD
theorem el_lcIN [Nod H] {ns : List Int} {vs : List Nat} (p : Int → Bool) (f : Int → Int) (h : EvL tl σ H (ns.map V.int)) (hz : ns.length ≤ 16000000) (hw : ∀ x, wipe ((wipe σ vs).set n (some x)) vs = wipe σ vs)
    (ht : ∀ i ∈ ns, ∀ q D acc, H q = none → H D = none → q ≠ D → EvT t ((wipe σ vs).set n (some (.int i))) (upd (upd H q (.lst (ns.map V.int))) D (.lst acc)) (p i)) (he : ∀ i ∈ ns, p i = true → ∀ q D acc, H q = none → H D = none → q ≠ D → Ev te ((wipe σ vs).set n (some (.int i))) (upd (upd H q (.lst (ns.map V.int))) D (.lst acc)) (.int (f i))) :
    EvL (tFg (tLc (iList K tl) (gName n) t te vs)) σ H (((ns.filter p).map f).map V.int) := by
  rw [← filt_int]
  refine el_lcN (pV p) (fV f) h (by rw [List.length_map]; exact Nat.le_trans hz (by decide)) hw (fun x hx q D acc hq hD hn => ?_) (fun x hx hp q D acc hq hD hn => ?_)
  · obtain ⟨i, hi, rfl⟩ := mem_int hx
    exact ht i hi q D acc hq hD hn
  · obtain ⟨i, hi, rfl⟩ := mem_int hx
    exact he i hi hp q D acc hq hD hn
/-- a call whose first argument is a new list -/
theorem ev_callL [Nod H] {sp : Sp} {xs vs : List V} {v : V} {E : XK} {ta : TA} (h : EvL tl σ H xs) (ha : ∀ p, H p = none → EvA ta σ (upd H p (.lst xs)) vs) (hs : ∀ p, H p = none → ∀ Q : VK, Q v (upd H p (.lst xs)) → sp (.ref p :: vs) (upd H p (.lst xs)) Q E) : Ev (tFg (tCall sp [] E (tCons tl ta))) σ H v :=
  ev_fg fun Q q => h _ fun p hp => ha p hp _ (by
    show sp (.ref p :: vs ++ []) _ _ E
    rw [List.append_nil]
    exact hs p hp _ (q _ (ex_new hp)))
theorem ex_ne {H H' : Hp} {p : Addr} {xs : List V} {o : HO} (hp : H p = none) (e : Ex H H') : Ex H (upd H' p o) := ex_upd hp e
end
end Px
set_option Elab.async false
set_option linter.all false
set_option maxRecDepth 100000
set_option maxHeartbeats 4000000
namespace Px
open PySem L2
/-! ### tests by what they say -/
def EvP (t : TT) (σ : L2.St) (H : Hp) (P : Prop) : Prop := ∀ Q : Bool → Hp → Prop, (P → Q true H) → (¬ P → Q false H) → t σ H Q
section
variable {K : PySem.W.Frag} {σ : L2.St} {H : Hp} {ta tb tc te tl : TE} {t u : TT} {x y z v : V} {D : Ends} {s1 s2 s3 tu : TS} {n : Nat} {i j k : Int} {P R : Prop}
theorem ev_v' (h : σ[n]? = some (some v)) : Ev (tVar n) σ H v := ev_v n h
theorem ep_of {b : Bool} (h : EvT t σ H b) : EvP t σ H (b = true) := fun Q h1 h2 => h Q (by
  cases b with
  | true => exact h1 rfl
  | false => exact h2 (by decide))
theorem ep_dec [Decidable P] (h : EvT t σ H (decide P)) : EvP t σ H P := fun Q h1 h2 => h Q (by
  by_cases c : P
  · rw [decide_eq_true c]; exact h1 c
  · rw [decide_eq_false c]; exact h2 c)
theorem ep_iff (h : EvP t σ H P) (e : P ↔ R) : EvP t σ H R := fun Q h1 h2 => h Q (fun p => h1 (e.mp p)) fun p => h2 fun r => p (e.mpr r)
theorem ep_lt (ha : Ev ta σ H (.int i)) (hb : Ev tb σ H (.int j)) : EvP (tTest (tOp oLt ta tb)) σ H (i < j) := ep_dec (et_t (ev_lt ha hb))
theorem ep_le (ha : Ev ta σ H (.int i)) (hb : Ev tb σ H (.int j)) : EvP (tTest (tOp oLe ta tb)) σ H (i ≤ j) := ep_dec (et_t (ev_le ha hb))
theorem ep_gt (ha : Ev ta σ H (.int i)) (hb : Ev tb σ H (.int j)) : EvP (tTest (tOp oGt ta tb)) σ H (j < i) := ep_dec (et_t (ev_gt ha hb))
theorem ep_ge (ha : Ev ta σ H (.int i)) (hb : Ev tb σ H (.int j)) : EvP (tTest (tOp oGe ta tb)) σ H (j ≤ i) := ep_dec (et_t (ev_ge ha hb))
theorem ep_eqi (ha : Ev ta σ H (.int i)) (hb : Ev tb σ H (.int j)) : EvP (tTest (tOp rEq ta tb)) σ H (i = j) := ep_dec (et_t (ev_eqi ha hb))
theorem ep_nei (ha : Ev ta σ H (.int i)) (hb : Ev tb σ H (.int j)) : EvP (tTest (tOp rNe ta tb)) σ H (i ≠ j) := fun Q h1 h2 => et_t (ev_nei ha hb) Q (by
  by_cases c : i = j
  · rw [decide_eq_true c]; exact h2 fun z => z c
  · rw [decide_eq_false c]; exact h1 c)
theorem ep_b {b : Bool} (h : Ev te σ H (.bl b)) : EvP (tB te) σ H (b = true) := ep_of (et_b h)
theorem ep_bd [Decidable P] (h : Ev te σ H (.bl (decide P))) : EvP (tB te) σ H P := ep_dec (et_b h)
theorem ep_isN (ha : Ev ta σ H x) : EvP (tTest (tOp oIsN ta (tC .non))) σ H (x = .non) := ep_dec (et_t (ev_isN ha))
theorem ep_not (h : EvP t σ H P) : EvP (tNot t) σ H (¬ P) := fun Q h1 h2 => h _ (fun p => h2 fun z => z p) h1
theorem ep_and (h : EvP t σ H P) (g : P → EvP u σ H R) : EvP (tAnd t u) σ H (P ∧ R) := fun Q h1 h2 => h _ (fun p => iteT (g p _ (fun r => h1 ⟨p, r⟩) fun r => h2 fun z => r z.2)) fun p => iteF (h2 fun z => p z.1)
theorem ep_or (h : EvP t σ H P) (g : ¬ P → EvP u σ H R) : EvP (tOr t u) σ H (P ∨ R) := fun Q h1 h2 => h _ (fun p => iteT (h1 (.inl p))) fun p => iteF (g p _ (fun r => h1 (.inr r)) fun r => h2 fun z => z.elim p r)
theorem ep_yes (h : EvP t σ H P) (p : P) : EvT t σ H true := fun Q q => h Q (fun _ => q) fun z => absurd p z
theorem ep_no (h : EvP t σ H P) (p : ¬ P) : EvT t σ H false := fun Q q => h Q (fun z => absurd z p) fun _ => q
/-- i < j < k -/
theorem ep_chain {r r' : R2} {a b : Bool} (ha : Ev ta σ H x) (hb : Ev tb σ H y) (hr : RV r x y H (.bl a)) (hc : a = true → Ev tc σ H z) (hr' : a = true → RV r' y z H (.bl b)) : EvP (tTest (tChain r r' ta tb tc)) σ H (a = true ∧ b = true) :=
  ep_iff (ep_of (et_t (ev_chain ha hb hr hc hr'))) (by simp)
theorem s_ifP (h : EvP t σ H P) (h1 : P → s1 D σ H) (h2 : ¬ P → s2 D σ H) : tIfS t s1 s2 D σ H := h _ (fun p => iteT (h1 p)) fun p => iteF (h2 p)
theorem q_ifP (h : EvP t σ H P) (h1 : P → s1 { D with nx := s3 D } σ H) (h2 : ¬ P → s2 { D with nx := s3 D } σ H) : tSeq (tIfS t s1 s2) s3 D σ H := s_ifP (D := { D with nx := s3 D }) h h1 h2
theorem q_whenP (h : EvP t σ H P) (h1 : P → s1 { D with nx := s3 D } σ H) (h2 : ¬ P → s3 D σ H) : tSeq (tIfS t s1 tNext) s3 D σ H := s_ifP (D := { D with nx := s3 D }) h h1 h2
theorem s_whenP (h : EvP t σ H P) (h1 : P → s1 D σ H) (h2 : ¬ P → D.nx σ H) : tIfS t s1 tNext D σ H := s_ifP h h1 h2
theorem q_never (h : EvP t σ H P) (h1 : ¬ P) (h2 : s3 D σ H) : tSeq (tIfS t s1 tNext) s3 D σ H := q_whenP h (fun p => absurd p h1) fun _ => h2
theorem s_whileP (W : Nat → L2.St → Hp → Prop) (m0 : Nat) (h0 : W m0 σ H)
    (hs : ∀ m σ' H', W m σ' H' → ∃ P, EvP t σ' H' P ∧ (P → tu { D with nx := fun σ2 H2 => ∃ m', m' < m ∧ W m' σ2 H2, ct := fun σ2 H2 => ∃ m', m' < m ∧ W m' σ2 H2, bk := D.nx } σ' H') ∧ (¬ P → D.nx σ' H')) : tWhile t tu D σ H :=
  ⟨W, ⟨m0, h0⟩, fun m σ' H' hw => by
    obtain ⟨P, hb, h1, h2⟩ := hs m σ' H' hw
    exact hb _ (fun p => iteT ⟨_, fun σ2 H2 q => q, h1 p⟩) fun p => iteF (h2 p)⟩
theorem q_whileP (W : Nat → L2.St → Hp → Prop) (m0 : Nat) (h0 : W m0 σ H)
    (hs : ∀ m σ' H', W m σ' H' → ∃ P, EvP t σ' H' P ∧ (P → tu { D with nx := fun σ2 H2 => ∃ m', m' < m ∧ W m' σ2 H2, ct := fun σ2 H2 => ∃ m', m' < m ∧ W m' σ2 H2, bk := s2 D } σ' H') ∧ (¬ P → s2 D σ' H')) : tSeq (tWhile t tu) s2 D σ H :=
  s_whileP (D := { D with nx := s2 D }) W m0 h0 hs
theorem w_evL {xs : List V} {Q : VK} (h : EvL te σ H xs) (k : ∀ p, H p = none → Q (.ref p) (upd H p (.lst xs))) : te σ H Q := h Q k
theorem w_callW {sp : Sp} {E : XK} {t : TA} {Q : VK} (h : t σ H fun vs H1 => sp (vs ++ []) H1 Q E) : tCall sp [] E t σ H Q := h
theorem w_nil {Q : List V → Hp → Prop} (h : Q [] H) : tNil σ H Q := h
theorem q_drop (h : te σ H fun _ H1 => s2 D σ H1) : tSeq (tDrop te) s2 D σ H := h
theorem s_dropW (h : te σ H fun _ H1 => D.nx σ H1) : tDrop te D σ H := h
theorem w_test {b : Bool} {Q : Bool → Hp → Prop} (h : te σ H fun v H1 => ∃ b, v = .bl b ∧ Q b H1) : tTest te σ H Q := h
theorem w_B {Q : Bool → Hp → Prop} (h : te σ H fun v H1 => ∃ b, v = .bl b ∧ Q b H1) : tB te σ H Q := h
theorem w_if {Q : VK} (h : t σ H fun b H1 => if b = true then ta σ H1 Q else tb σ H1 Q) : tIf t ta tb σ H Q := h
end
/-! ### lists that are one's own, over a base -/
structure Own (B : Hp) (L : List (Addr × List V)) (H : Hp) : Prop where
  nod : Nod H
  ex : Ex B H
  off : ∀ q ∈ L, B q.1 = none
  dis : (L.map (·.1)).Nodup
  has : ∀ q ∈ L, H q.1 = some (.lst q.2)
section
variable {K : PySem.W.Frag} {B H H' : Hp} {L : List (Addr × List V)} {p a : Addr} {xs ys zs : List V}
theorem Own.nil [n : Nod H] : Own H [] H := ⟨n, ex_refl, fun _ h => (List.not_mem_nil h).elim, List.Pairwise.nil, fun _ h => (List.not_mem_nil h).elim⟩
theorem Own.atI (o : Own B L H) (i : Nat) (h : L[i]? = some (p, xs)) : H p = some (.lst xs) := o.has _ (List.mem_of_getElem? h)
theorem Own.sqi (o : Own B L H) (i : Nat) (h : L[i]? = some (p, xs)) : SqL K H p xs := sq_at (o.atI i h)
theorem Own.offI (o : Own B L H) (i : Nat) (h : L[i]? = some (p, xs)) : B p = none := o.off _ (List.mem_of_getElem? h)
theorem Own.sq (o : Own B L H) (h : SqL K B a xs) : SqL K H a xs := ex_sq o.ex h
theorem Own.sqt (o : Own B L H) (h : SqT K B a xs) : SqT K H a xs := ex_sqt o.ex h
theorem Own.new (o : Own B L H) (hp : H p = none) : Own B ((p, xs) :: L) (upd H p (.lst xs)) where
  nod := have := o.nod; inferInstance
  ex := ex_upd (ex_none o.ex hp) o.ex
  off := fun q hq => by
    rcases List.mem_cons.mp hq with rfl | hq
    · exact ex_none o.ex hp
    · exact o.off q hq
  dis := by
    rw [List.map_cons, List.nodup_cons]
    refine ⟨fun z => ?_, o.dis⟩
    obtain ⟨q, hq, e⟩ := List.mem_map.mp z
    have := o.has q hq
    rw [e, hp] at this
    cases this
  has := fun q hq => by
    rcases List.mem_cons.mp hq with rfl | hq
    · exact upd_same
    · rw [upd_ne (ne_of_none (o.has q hq) hp)]; exact o.has q hq
theorem Own.tup (o : Own B L H) (hp : H p = none) : Own B L (upd H p (.tup xs)) where
  nod := have := o.nod; inferInstance
  ex := ex_upd (ex_none o.ex hp) o.ex
  off := o.off
  dis := o.dis
  has := fun q hq => by rw [upd_ne (ne_of_none (o.has q hq) hp)]; exact o.has q hq
theorem Own.tmp (o : Own B L H) (hp : H p = none) : Own B L (upd H p (.lst xs)) where
  nod := have := o.nod; inferInstance
  ex := ex_upd (ex_none o.ex hp) o.ex
  off := o.off
  dis := o.dis
  has := fun q hq => by rw [upd_ne (ne_of_none (o.has q hq) hp)]; exact o.has q hq
theorem Own.any (o : Own B L H) (e : Ex H H') (n : Nod H') : Own B L H' := ⟨n, ex_trans o.ex e, o.off, o.dis, fun q hq => e _ _ (o.has q hq)⟩
theorem Own.mut (o : Own B L H) (i : Nat) (h : L[i]? = some (p, xs)) : Own B (L.set i (p, ys)) (upd H p (.lst ys)) where
  nod := have := o.nod; inferInstance
  ex := fun b u hb => by
    rw [upd_ne (fun e => by rw [e, o.offI i h] at hb; cases hb)]
    exact o.ex b u hb
  off := fun q hq => by
    rcases List.mem_or_eq_of_mem_set hq with hq | rfl
    · exact o.off q hq
    · exact o.offI i h
  dis := by
    have e : (L.set i (p, ys)).map (·.1) = L.map (·.1) := by
      rw [List.map_set]
      obtain ⟨hi, hx⟩ := List.getElem?_eq_some_iff.mp h
      have : (L.map (·.1))[i]'(by simpa using hi) = p := by rw [List.getElem_map, hx]
      have e2 := List.set_getElem_self (as := L.map (·.1)) (i := i) (by simpa using hi)
      rw [this] at e2
      exact e2
    rw [e]; exact o.dis
  has := fun q hq => by
    obtain ⟨j, hj⟩ := List.mem_iff_getElem?.mp hq
    obtain ⟨hi, hx⟩ := List.getElem?_eq_some_iff.mp h
    by_cases e : i = j
    · subst e
      rw [List.getElem?_set_self hi] at hj
      cases hj
      exact upd_same
    · rw [List.getElem?_set_ne e] at hj
      have ne : q.1 ≠ p := fun z => by
        have h1 : (L.map (·.1))[i]? = some p := by rw [List.getElem?_map, h]; rfl
        have h2 : (L.map (·.1))[j]? = some p := by rw [List.getElem?_map, hj]; exact congrArg some z
        have hil : i < (L.map (·.1)).length := by simpa using hi
        exact e ((List.getElem?_inj hil o.dis).mp (h1.trans h2.symm))
      rw [upd_ne ne]
      exact o.has q (List.mem_of_getElem? hj)
theorem Own.sub {L' : List (Addr × List V)} (o : Own B L H) (s : L'.Sublist L) : Own B L' H := ⟨o.nod, o.ex, fun q h => o.off q (s.subset h), o.dis.sublist (s.map _), fun q h => o.has q (s.subset h)⟩
theorem Own.drop1 {q : Addr × List V} (o : Own B (q :: L) H) : Own B L H := o.sub (List.sublist_cons_self _ _)
theorem Own.drop2 {q r : Addr × List V} (o : Own B (r :: q :: L) H) : Own B (r :: L) H := o.sub ((List.sublist_cons_self _ _).cons₂ _)
theorem Own.perm {L' : List (Addr × List V)} (o : Own B L H) (s : L'.Perm L) : Own B L' H := ⟨o.nod, o.ex, fun q h => o.off q (s.mem_iff.mp h), (s.map _).nodup_iff.mpr o.dis, fun q h => o.has q (s.mem_iff.mp h)⟩
/-- all of it is the base from here on -/
theorem Own.base (o : Own B L H) : Own H [] H := have := o.nod; Own.nil
theorem Own.keep (o : Own B L H) [Nod B] : Fg B H B := fg_same o.ex
theorem Own.ret (o : Own B L H) [Nod B] (i : Nat) (h : L[i]? = some (p, xs)) : Fg B H (upd B p (.lst xs)) := fg_newL (o.offI i h) o.ex (o.atI i h)
/-- within a longer life: what was one's own is part of the base of another -/
theorem Own.into {B2 : Hp} {M : List (Addr × List V)} (o : Own B L H) (o2 : Own H M B2) : Own B L B2 := o.any o2.ex o2.nod
/-! ### a list that is handed in and changed -/
def del (H : Hp) (a : Addr) : Hp := fun b => if b = a then none else H b
theorem del_ex : Ex (del H a) H := fun b o h => by
  unfold del at h
  split at h
  · cases h
  · exact h
theorem del_at : del H a a = none := if_pos rfl
theorem del_ne {b : Addr} (h : b ≠ a) : del H a b = H b := if_neg h
theorem del_sq {r : Addr} (h : r ≠ a) (s : SqL K H r xs) : SqL K (del H a) r xs := by
  rcases s with (s | ⟨ob, s⟩) | s
  · exact .inl (.inl (by rw [del_ne h]; exact s))
  · exact .inl (.inr ⟨ob, by rw [del_ne h]; exact s⟩)
  · exact .inr s
theorem Own.enter [n : Nod H] (h : H a = some (.lst xs)) : Own (del H a) [(a, xs)] H :=
  ⟨n, del_ex, fun q hq => by rw [List.mem_singleton.mp hq]; exact del_at, by simp, fun q hq => by rw [List.mem_singleton.mp hq]; exact h⟩
theorem Own.exit [Nod H] (o : Own (del H a) L H') (h : H a = some (.lst xs)) (i : Nat) (hi : L[i]? = some (a, ys)) : Fg H H' (upd H a (.lst ys)) :=
  fg_mutL h (fun b u hb hu => o.ex b u (by rw [del_ne hb]; exact hu)) (o.atI i hi)
theorem Own.exitN [Nod H] (o : Own (del H a) L H') (h : H a = some (.lst xs)) (i j : Nat) (hi : L[i]? = some (a, ys)) (hj : L[j]? = some (p, zs)) (ne : p ≠ a) : Fg H H' (upd (upd H a (.lst ys)) p (.lst zs)) :=
  fg_mut_newL h (by have := o.offI j hj; rw [del_ne ne] at this; exact this) (fun b u hb hu => o.ex b u (by rw [del_ne hb]; exact hu)) (o.atI i hi) (o.atI j hj)
theorem Own.ne (o : Own B L H) (i j : Nat) (hi : L[i]? = some (p, xs)) (hj : L[j]? = some (a, ys)) (h : i ≠ j) : p ≠ a := fun z => by
  have h1 : (L.map (·.1))[i]? = some p := by rw [List.getElem?_map, hi]; rfl
  have h2 : (L.map (·.1))[j]? = some p := by rw [List.getElem?_map, hj]; exact congrArg some z.symm
  have hil : i < (L.map (·.1)).length := by have := (List.getElem?_eq_some_iff.mp hi).1; simpa using this
  exact h ((List.getElem?_inj hil o.dis).mp (h1.trans h2.symm))
theorem Own.neB (o : Own B L H) (i : Nat) (hi : L[i]? = some (p, xs)) {u : HO} (h : B a = some u) : a ≠ p := fun z => by rw [z, o.offI i hi] at h; cases h
end
end Px
set_option Elab.async false
set_option linter.all false
set_option maxRecDepth 100000
set_option maxHeartbeats 4000000
/-! list(enumerate(xs)), xs a list: after the model of the kit's list(d.items()) -/
namespace PySem.W
open PySem PySem.Calls PyProof.Rows PyProof.V PySem.Spec
theorem enl_no_len : typeLookup (.type "enumerate") "__len__" = pure none := am_miss_of_fast (by decide +kernel)
theorem enl_no_hint : typeLookup (.type "enumerate") "__length_hint__" = pure none := am_miss_of_fast (by decide +kernel)
structure EnG (items : Array Value) (lo : Addr) (h : Heap) (as : List Addr) : Prop where
  rise : as.Pairwise (· < ·)
  above : ∀ a ∈ as, lo < a
  pairs : ∀ (j : Nat) (a : Addr), as[j]? = some a → ∃ (hj : j < items.size) (tk : Nat), h.get? a = some { cls := .type "tuple", data := .seq #[.int j tk, items[j]] }
theorem EnG.there {items : Array Value} {lo : Addr} {h : Heap} {as : List Addr} (g : EnG items lo h as) {a : Addr} (ha : a ∈ as) : a < h.objs.size := by
  obtain ⟨j, hj⟩ := List.mem_iff_getElem?.mp ha
  obtain ⟨_, _, e⟩ := g.pairs j a hj
  exact Heap.lt_size e
def EnSt (h : Heap) (e it l S : Addr) (i : Nat) (items : Array Value) : Prop :=
  h.IsListIter it l i ∧ h.IsList l items ∧ ((∃ old, IsEnum h e it i old) ∨ ∃ old T f oT, IsEnumHeld h e it i old T f ∧ h.get? T = some oT ∧ T ≠ e ∧ T ≠ it ∧ T ≠ S)
theorem EnSt.keep {h h' : Heap} {e it l S : Addr} {i : Nat} {items : Array Value} (st : EnSt h e it l S i items) (hk : ∀ b o, b ≠ S → h.get? b = some o → h'.get? b = some o) (h1 : e ≠ S) (h2 : it ≠ S) (h3 : l ≠ S) : EnSt h' e it l S i items := by
  obtain ⟨hit, hl, he⟩ := st
  refine ⟨hit.at fun o x => hk _ o h2 x, hl.at fun o x => hk _ o h3 x, ?_⟩
  rcases he with ⟨old, he⟩ | ⟨old, T, f, oT, he, hT, r1, r2, r3⟩
  · exact .inl ⟨old, hk _ _ h1 he⟩
  · exact .inr ⟨old, T, f, oT, hk _ _ h1 he, hk _ _ r3 hT, r1, r2, r3⟩
section
variable {prog : Program} {w : World} {A : Around} {E : Value → Shared → Prop} {s : Shared}
theorem en_item {e it l S : Addr} {i : Nat} {items : Array Value} {Q : Option Value → Shared → Prop} (st : EnSt s.heap e it l S i items) (hS : S < s.heap.objs.size) (hei : e ≠ it) (hle : l ≠ e) (hli : l ≠ it) (hlt : i < items.size)
    (hQ : ∀ h' tk, EnSt h' e it l S (i + 1) items → (∃ t, h'.get? s.heap.objs.size = some { cls := .type "tuple", data := .seq #[.int i t, items[i]] }) →
      (∀ b o, b ≠ e → b ≠ it → s.heap.get? b = some o → h'.get? b = some o) → Q (some (.ref s.heap.objs.size)) { s with heap := h', toks := tk }) :
    wpAny (model prog w) A (pyNext (.ref e)) Q E s := by
  obtain ⟨hit, hl, he⟩ := st
  have ex := Array.getElem?_eq_getElem hlt
  have ec : ((i + 1 : Nat) : Int) = (i : Int) + 1 := by omega
  have nit : s.heap.objs.size ≠ it := let ⟨_, x, _⟩ := hit; Nat.ne_of_gt (Heap.lt_size x)
  rcases he with ⟨old, he⟩ | ⟨old, T, f, oT, he, hT, r1, r2, r3⟩
  · refine wpAny_pyNext_enum_item he hit hl ex hei fun h' ho hit' hT hsz hk => ?_
    exact hQ h' (s.toks + 1) ⟨hit', hl.at fun o x => hk l o hle hli x, .inr ⟨_, s.heap.objs.size, false, _, (by rw [ec]; exact ho), hT, Nat.ne_of_gt (Heap.lt_size he), nit, Nat.ne_of_gt hS⟩⟩ ⟨_, hT⟩ hk
  · refine wpAny_pyNext_enum_item_held he hT r1 r2 hit hl ex hei fun h' ho hit' hT' hsz hk => ?_
    exact hQ h' (s.toks + 1) ⟨hit', hl.at fun o x => hk l o hle hli x, .inr ⟨old, T, true, oT, (by rw [ec]; exact ho), hk _ _ r1 r2 hT, r1, r2, r3⟩⟩ ⟨_, hT'⟩ hk
theorem en_done {e it l S : Addr} {i : Nat} {items : Array Value} {Q : Option Value → Shared → Prop} (hh : A.handled = none) (st : EnSt s.heap e it l S i items) (hge : items.size ≤ i)
    (hQ : ∀ h', Heap.ExtBut it s.heap h' → Q none { s with heap := h' }) : wpAny (model prog w) A (pyNext (.ref e)) Q E s := by
  obtain ⟨hit, hl, he⟩ := st
  have hx : items[i]? = none := Array.getElem?_eq_none hge
  rcases he with ⟨old, he⟩ | ⟨old, T, f, oT, he, hT, r1, r2, r3⟩
  · exact wpAny_pyNext_enum_end hh he hit hl hx hQ
  · exact wpAny_pyNext_enum_end_held hh he hit hl hx hQ
end
section
variable {prog : Program} {w : World} {A : Around} {s : Shared} {R : Result → Shared → Prop} {items : Array Value}
theorem en_loop {S e it l : Addr} (hh : A.handled = none) (heS : e < S) (hiS : it < S) (hlS : l ≠ S) (hei : e ≠ it) (hle : l ≠ e) (hli : l ≠ it) (hn : items.size ≤ sizeLine) (res : Value) {h₁ : Heap}
    (hR : ∀ h' tk acc c as, (∀ b o, b ≠ S → b ≠ e → b ≠ it → h₁.get? b = some o → h'.get? b = some o) → h'.get? S = some { cls := .type "list", dict := none, data := .seq acc c, slots := #[] } → as.length = items.size → EnG items S h' as →
      acc.toList = as.map Value.ref → R (.ok (.ret res)) { s with heap := h', toks := tk }) :
    ∀ (k i : Nat) (h : Heap) (tk c : Nat) (acc : Array Value) (as : List Addr), items.size - i = k → i ≤ items.size → EnSt h e it l S i items → (∀ b o, b ≠ S → b ≠ e → b ≠ it → h₁.get? b = some o → h.get? b = some o) →
      h.get? S = some { cls := .type "list", dict := none, data := .seq acc c, slots := #[] } → acc.toList = as.map Value.ref → as.length = i → EnG items S h as →
      codeAny (model prog w) A (.builtin "list.extend.loop" ⟨[.ref S, .ref e, res], []⟩) R { s with heap := h, toks := tk } := by
  have hne : S ≠ e := Nat.ne_of_gt heS
  have hni : S ≠ it := Nat.ne_of_gt hiS
  intro k
  induction k with
  | zero =>
    intro i h tk c acc as hk hi hst hkeep hS hacc hal hG
    refine codeAny_builtin PySem.F.entry_extend_loop ?_
    rw [Around.under_plainId PySem.F.plain_extend_loop _]
    show wpAny _ A.in1 (pyNext (.ref e) >>= _) _ _ _
    refine wpAny_bind (en_done (s := { s with heap := h, toks := tk }) (A := A.in1) hh hst (by omega) fun h' he => ?_)
    refine wpAny_pure (hR h' tk acc c as (fun b o h1 h2 h3 x => he b o h3 (hkeep b o h1 h2 h3 x)) (he S _ hni hS) (by omega) ⟨hG.rise, hG.above, fun j a hj => ?_⟩ hacc)
    obtain ⟨hj', tk', e3⟩ := hG.pairs j a hj
    exact ⟨hj', tk', he a _ (Nat.ne_of_gt (Nat.lt_trans hiS (hG.above a (List.mem_of_getElem? hj)))) e3⟩
  | succ k ih =>
    intro i h tk c acc as hk hi hst hkeep hS hacc hal hG
    have hlt : i < items.size := by omega
    have hsz : acc.size = i := by rw [← Array.length_toList, hacc, List.length_map, hal]
    refine codeAny_builtin PySem.F.entry_extend_loop ?_
    rw [Around.under_plainId PySem.F.plain_extend_loop _]
    show wpAny _ A.in1 (pyNext (.ref e) >>= _) _ _ _
    refine wpAny_bind (en_item (s := { s with heap := h, toks := tk }) hst (Heap.lt_size hS) hei hle hli hlt fun h' tk' hst' ht hkp => ?_)
    dsimp only at ht hkp ⊢
    have hS' := hkp S _ hne hni hS
    have up : ∀ b o, b ≠ S → h'.get? b = some o → (h'.update S (Obj.mapSeq (·.push (Value.ref h.objs.size)))).get? b = some o := fun b o hb x => (Heap.get?_update_other _ _ (Ne.symm hb)).trans x
    have hSl : S < h.objs.size := Heap.lt_size hS
    show wpAny _ A.in1 (updateSeq S (·.push (Value.ref h.objs.size)) >>= _) _ _ _
    refine wpAny_bind ?_
    refine wpAny_updateSeq hS' rfl (wpAny_pure ⟨plainId_quiet PySem.F.plain_extend_loop _, ih (i + 1) _ tk' _ (acc.push (Value.ref h.objs.size)) (as ++ [h.objs.size]) (by omega) hlt (hst'.keep up (Ne.symm hne) (Ne.symm hni) hlS)
      (fun b o h1 h2 h3 x => up b o h1 (hkp b o h2 h3 (hkeep b o h1 h2 h3 x))) (Heap.get?_update_self _ hS' rfl) (by rw [Array.toList_push, hacc, List.map_append]; rfl) (by rw [List.length_append, hal]; rfl) ⟨?_, ?_, ?_⟩⟩) (by rw [hsz]; omega) (by show (acc.push (Value.ref h.objs.size)).size ≤ sizeLine + 1; rw [Array.size_push, hsz]; omega)
    · refine List.pairwise_append.mpr ⟨hG.rise, List.pairwise_singleton _ _, fun a ha b hb => ?_⟩
      rw [List.mem_singleton.mp hb]
      exact hG.there ha
    · intro a ha
      rcases List.mem_append.mp ha with ha | ha
      · exact hG.above a ha
      · rw [List.mem_singleton.mp ha]; exact hSl
    · intro j b hj
      rcases Nat.lt_trichotomy j as.length with h1 | h1 | h1
      · rw [List.getElem?_append_left h1] at hj
        obtain ⟨hj', tk2, e3⟩ := hG.pairs j b hj
        have hb := hG.above b (List.mem_of_getElem? hj)
        exact ⟨hj', tk2, up b _ (Nat.ne_of_gt hb) (hkp b _ (Nat.ne_of_gt (Nat.lt_trans heS hb)) (Nat.ne_of_gt (Nat.lt_trans hiS hb)) e3)⟩
      · subst h1
        have hb : h.objs.size = b := by simpa using hj
        subst hb
        obtain ⟨t, ht⟩ := ht
        exact ⟨by omega, t, by subst hal; exact up _ _ (Nat.ne_of_gt hSl) ht⟩
      · have hnone : (as ++ [h.objs.size])[j]? = none := List.getElem?_eq_none (by rw [List.length_append, List.length_singleton]; omega)
        rw [hnone] at hj; cases hj
end
section
variable {prog : Program} {w : World} {A : Around} {E : Value → Shared → Prop} {s : Shared} {e it l : Addr} {items : Array Value}
theorem en_hint (hT : s.TypeIs (.ref e) "enumerate") {Q : Bool → Shared → Prop} (h : Q true s) : wpAny (model prog w) A (Builtin.List.listLengthHint (.ref e)) Q E s := by
  unfold Builtin.List.listLengthHint
  refine wpAny_bind (wpAny_specialOf hT enl_no_len ?_)
  refine wpAny_bind (wpAny_specialOf hT enl_no_hint ?_)
  exact wpAny_pure h
theorem en_extend {R : Result → Shared → Prop} (hh : A.handled = none) {old : Value} (he : IsEnum s.heap e it 0 old) (hit : s.heap.IsListIter it l 0) (hl : s.heap.IsList l items) (hei : e ≠ it) (hle : l ≠ e) (hli : l ≠ it) (S : Addr) (heS : e < S) (hiS : it < S) (hlS : l ≠ S) (res : Value) (c₀ : Nat) (hS : s.heap.get? S = some { cls := .type "list", data := .seq #[] c₀ })
    (hR : ∀ h' tk acc c as, (∀ b o, b ≠ S → b ≠ e → b ≠ it → s.heap.get? b = some o → h'.get? b = some o) → h'.get? S = some { cls := .type "list", dict := none, data := .seq acc c, slots := #[] } → as.length = items.size → EnG items S h' as →
      acc.toList = as.map Value.ref → R (.ok (.ret res)) { s with heap := h', toks := tk }) (hn : items.size ≤ sizeLine) :
    wpAny (model prog w) A.in1 (Builtin.List.listExtendWith (.ref S) (.ref e) res)
      (fun fin s' => match fin with | .done f => R (.ok f) s' | .again c' => c'.quiet = true ∧ codeAny (model prog w) A c' R s') (fun x s' => R (.error x) s') s := by
  have key : ∀ (h : Heap) (c₁ tk : Nat), (∀ b o, b ≠ S → s.heap.get? b = some o → h.get? b = some o) →
      h.get? S = some { cls := .type "list", data := .seq #[] c₁ } → codeAny (model prog w) A (.builtin "list.extend.loop" ⟨[.ref S, .ref e, res], []⟩) R { s with heap := h, toks := tk } := by
    intro h c₁ tk hk hS₁
    refine en_loop (items := items) (s := s) (h₁ := s.heap) hh heS hiS hlS hei hle hli hn res (fun h' tk' acc c as hk' hS' hl hG hacc => hR h' tk' acc c as hk' hS' hl hG hacc)
      items.size 0 h tk c₁ #[] [] (Nat.sub_zero _) (Nat.zero_le _) ⟨hit.at fun o x => hk _ o (Nat.ne_of_lt hiS) x, hl.at fun o x => hk _ o hlS x, .inl ⟨old, hk _ _ (Nat.ne_of_lt heS) he⟩⟩ (fun b o hb _ _ x => hk b o hb x) hS₁ rfl rfl
      ⟨List.Pairwise.nil, (fun _ ha => nomatch ha), (fun j a hj => by simp at hj)⟩
  have hTy : s.TypeIs (.ref e) "enumerate" := ⟨_, he, rfl⟩
  unfold Builtin.List.listExtendWith
  refine wpAny_bind (wpAny_typeOf (T := "enumerate") hTy ?_)
  have h1 : Builtin.List.listSameRef (.ref S) (.ref e) = false := by simp [Builtin.List.listSameRef, Nat.ne_of_gt heS]
  have h2 : (Value.type "enumerate" == Value.type "list") = false := by decide
  have h3 : (Value.type "enumerate" == Value.type "tuple") = false := by decide
  simp only [h1, h2, h3, Bool.or_false, Bool.false_eq_true, if_false]
  refine wpAny_bind (wpAny_pyIter_enum he ?_)
  refine wpAny_bind (wpAny_holding (en_hint hTy ?_))
  simp only [Bool.true_or, if_true]
  refine wpAny_bind (wpAny_rule ?_)
  refine wpAny_bind ?_
  show wpAny _ _ (updateSeq S (·.push .none) >>= fun _ => updateSeq S (·.pop)) _ _ _
  refine wpAny_bind (wpAny_updateSeq hS rfl ?_)
  have hS₂ := Heap.get?_update_self (Obj.mapSeq (·.push Value.none)) hS rfl
  refine wpAny_updateSeq (hz := by seq_fits) hS₂ rfl ?_
  have hS₃ := Heap.get?_update_self (Obj.mapSeq (·.pop)) hS₂ rfl
  refine wpAny_pure ⟨plainId_quiet PySem.F.plain_extend_loop _, key _ _ _ (fun b o hb x => ?_) hS₃⟩
  exact (Heap.get?_update_other _ _ (Ne.symm hb)).trans ((Heap.get?_update_other _ _ (Ne.symm hb)).trans x)
theorem en_init {R : Result → Shared → Prop} (hh : A.handled = none) {old : Value} (he : IsEnum s.heap e it 0 old) (hit : s.heap.IsListIter it l 0) (hl : s.heap.IsList l items) (hei : e ≠ it) (hle : l ≠ e) (hli : l ≠ it) (S : Addr) (heS : e < S) (hiS : it < S) (hlS : l ≠ S) (hS : s.heap.get? S = some { cls := .type "list", data := .seq #[] })
    (hR : ∀ h' tk acc c as, (∀ b o, b ≠ S → b ≠ e → b ≠ it → s.heap.get? b = some o → h'.get? b = some o) → h'.get? S = some { cls := .type "list", dict := none, data := .seq acc c, slots := #[] } → as.length = items.size → EnG items S h' as →
      acc.toList = as.map Value.ref → R (.ok (.ret .none)) { s with heap := h', toks := tk }) (hn : items.size ≤ sizeLine) :
    wpAny (model prog w) A.in1 (Builtin.«list.__init__» ⟨[.ref S, .ref e], []⟩)
      (fun fin s' => match fin with | .done f => R (.ok f) s' | .again c' => c'.quiet = true ∧ codeAny (model prog w) A c' R s') (fun x s' => R (.error x) s') s := by
  show wpAny _ _ (do let old ← Builtin.List.listItems (.ref S); Builtin.List.listUpdate (.ref S) (fun _ => #[]); letGo old.toList.reverse; Builtin.List.listExtendWith (.ref S) (.ref e) .none) _ _ s
  refine wpAny_bind ?_
  unfold Builtin.List.listItems
  refine wpAny_bind (wpAny_seqItems hS rfl (wpAny_pure ?_))
  show wpAny _ _ (updateSeq S (fun _ => #[]) >>= fun _ => letGo (#[] : Array Value).toList.reverse >>= fun _ => Builtin.List.listExtendWith (.ref S) (.ref e) .none) _ _ s
  refine wpAny_bind (wpAny_updateSeq hS rfl ?_)
  have hS₂ := Heap.get?_update_self (Obj.mapSeq (fun _ => (#[] : Array Value))) hS rfl
  have oth : ∀ b o, b ≠ S → s.heap.get? b = some o → (s.heap.update S (Obj.mapSeq (fun _ => (#[] : Array Value)))).get? b = some o :=
    fun b o hb x => (Heap.get?_update_other _ _ (Ne.symm hb)).trans x
  refine wpAny_bind (wpAny_letGo ?_)
  refine en_extend hh (oth _ _ (Nat.ne_of_lt heS) he) (hit.at fun o x => oth _ o (Nat.ne_of_lt hiS) x) (hl.at fun o x => oth _ o hlS x) hei hle hli S heS hiS hlS .none _ hS₂ (fun h' tk acc c as hk hS' hl hG hacc => ?_) hn
  exact hR h' tk acc c as (fun b o h1 h2 h3 x => hk b o h1 h2 h3 (oth b o h1 x)) hS' hl hG hacc
theorem en_call {Q : Value → Shared → Prop} (hh : A.handled = none) {old : Value} (he : IsEnum s.heap e it 0 old) (hit : s.heap.IsListIter it l 0) (hl : s.heap.IsList l items) (hei : e ≠ it) (hle : l ≠ e) (hli : l ≠ it) (hn : items.size ≤ sizeLine)
    (hQ : ∀ h' tk acc c as, (∀ b o, b ≠ e → b ≠ it → s.heap.get? b = some o → h'.get? b = some o) → h'.get? s.heap.objs.size = some { cls := .type "list", dict := none, data := .seq acc c, slots := #[] } → as.length = items.size → EnG items s.heap.objs.size h' as →
      acc.toList = as.map Value.ref → Q (.ref s.heap.objs.size) { s with heap := h', toks := tk }) :
    wpAny (model prog w) A (call (.type "list") [.ref e]) Q E s := by
  refine callType_codes (Q₁ := fun obj s₁ => obj = .ref s.heap.objs.size ∧ s₁ = { s with heap := s.heap.push { cls := .type "list", data := .seq #[] } }) PySem.F.called_list (PySem.F.typeCall_list_1 _) PySem.F.entry_list_init
    (code_list_new _ ⟨rfl, rfl⟩) fun obj s₁ h₁ => ?_
  obtain ⟨rfl, rfl⟩ := h₁
  have hS : (s.heap.push { cls := .type "list", data := .seq #[] }).get? s.heap.objs.size = some { cls := .type "list", data := .seq #[] } := Heap.get?_push_size _ rfl
  have h1 : e < s.heap.objs.size := Heap.lt_size he
  have h2 : it < s.heap.objs.size := let ⟨_, ho, _⟩ := hit; Heap.lt_size ho
  have h3 : l < s.heap.objs.size := let ⟨_, ho, _⟩ := hl; Heap.lt_size ho
  refine ⟨⟨_, hS, rfl⟩, PySem.F.args_list_init_2 _ _, en_init (A := A.in1) hh (Heap.get?_push_of_some _ he) (hit.at fun o x => Heap.get?_push_of_some _ x) (hl.at fun o x => Heap.get?_push_of_some _ x) hei hle hli _ h1 h2 (Nat.ne_of_lt h3) hS (fun h' tk acc c as hk hS' hl hG hacc => ?_) hn⟩
  exact ⟨rfl, hQ h' tk acc c as (fun b o x1 x2 x => hk b o (Nat.ne_of_lt (Heap.lt_size x)) x1 x2 (Heap.get?_push_of_some _ x)) hS' hl hG hacc⟩
end
end PySem.W
namespace Px
open PySem L2 PySem.W
/-- pairs (j, x) laid at as -/
def layT (H : Hp) : Nat → List Addr → List V → Hp
  | j, a :: as, x :: xs => upd (layT H (j + 1) as xs) a (.tup [.int (j : Int), x])
  | _, _, _ => H
theorem layT_off {H : Hp} {b : Addr} : ∀ {as : List Addr} {xs : List V} {j : Nat}, b ∉ as → layT H j as xs b = H b
  | [], _, _, _ => rfl
  | _ :: _, [], _, _ => rfl
  | a :: as, x :: xs, j, h => by
    rw [List.mem_cons, not_or] at h
    rw [layT, upd_ne h.1, layT_off h.2]
theorem layT_at {H : Hp} {b : Addr} {x : V} : ∀ {as : List Addr} {xs : List V} {j i : Nat}, as.Nodup → as[i]? = some b → xs[i]? = some x → layT H j as xs b = some (.tup [.int ((j + i : Nat) : Int), x])
  | [], _, _, i, _, h, _ => by simp at h
  | _ :: _, [], _, i, _, _, h => by simp at h
  | a :: as, y :: xs, j, 0, _, h1, h2 => by
    simp at h1 h2
    subst h1 h2
    rw [layT, upd_same]; rfl
  | a :: as, y :: xs, j, i + 1, nd, h1, h2 => by
    simp at h1 h2
    have hb : b ≠ a := fun z => (List.nodup_cons.mp nd).1 (z ▸ List.mem_of_getElem? h1)
    rw [layT, upd_ne hb, layT_at (List.nodup_cons.mp nd).2 h1 h2]
    rw [show j + 1 + i = j + (i + 1) by omega]
theorem layT_tup {H : Hp} {b : Addr} {o : HO} : ∀ {as : List Addr} {xs : List V} {j : Nat}, layT H j as xs b = some o → H b = some o ∨ ∃ i x, as[i]? = some b ∧ xs[i]? = some x ∧ o = .tup [.int ((j + i : Nat) : Int), x]
  | [], _, _, h => .inl h
  | _ :: _, [], _, h => .inl h
  | a :: as, y :: xs, j, h => by
    by_cases hb : b = a
    · subst hb
      rw [layT, upd_same] at h
      cases h
      exact .inr ⟨0, y, rfl, rfl, rfl⟩
    · rw [layT, upd_ne hb] at h
      rcases layT_tup h with h | ⟨i, x, h1, h2, h3⟩
      · exact .inl h
      · exact .inr ⟨i + 1, x, by simpa using h1, by simpa using h2, by rw [h3, show j + 1 + i = j + (i + 1) by omega]⟩
/-- list(enumerate(e)) -/
def tEnumL (K : PySem.W.Frag) (ta : TA) : TE := fun σ H Q => ta σ H fun vs H1 => ∃ a xs, vs = [.ref a] ∧ SqL K H1 a xs ∧
  ∀ l (as : List Addr), H1 l = none → l ∉ as → as.Nodup → (∀ b ∈ as, H1 b = none) → as.length = xs.length → Q (.ref l) (upd (layT H1 0 as xs) l (.lst (as.map V.ref)))
theorem vals_refs : ∀ {as : List Addr}, Vals (as.map V.ref) (as.map Value.ref)
  | [] => .nil
  | _ :: _ => .cons rfl vals_refs
theorem pe_listEnum {X : Cx} {e : Expr} {ta : TA} {p1 p2 pos1 pos2 : Pos} (hg1 : Gl X "list") (hm1 : X.mg "list" = none) (hg2 : Gl X "enumerate") (hm2 : X.mg "enumerate" = none) (hc : X.calm = true) (ha : PA X [e] ta) (hs : starEach [e] X.env = [(false, eval e X.env)] := by rfl)
    (hs2 : starEach [.Call (.Name "enumerate" p2) [e] [] pos2] X.env = [(false, eval (.Call (.Name "enumerate" p2) [e] [] pos2) X.env)] := by rfl) :
    PE X (.Call (.Name "list" p1) [.Call (.Name "enumerate" p2) [e] [] pos2] [] pos1) (tEnumL X.K ta) := by
  refine ⟨fun pins s σ H Q I h => ?_⟩
  refine wpAny_Call_Name_kw (ld_blt I hg1 hm1 (show bootBuiltins "list" = some (.type "list") by decide +kernel) ?_ (by decide) (by decide))
  refine PyProof.Rows.callWith_type1 ?_ hs2 rfl
  rw [hs2]
  refine Calls.spliced_cons (thn (Q := fun v s1 => wpAny (model X.prog X.w) X.A (call (.type "list") [v]) (EP X pins σ Q) X.xe s1) ?_ fun v s1 h1 => Calls.spliced_nil h1)
  refine wpAny_Call_Name_kw (ld_blt I hg2 hm2 (show bootBuiltins "enumerate" = some (.type "enumerate") by decide +kernel) ?_ (by decide) (by decide))
  refine PyProof.Rows.callWith_type1 (thn (ha.run pos2 pins s σ H _ I h) fun us s1 ⟨vs, H1, I1, r1, q1⟩ => ?_) hs rfl
  obtain ⟨a, xs, ex, hq, q⟩ := q1
  subst ex
  cases r1 with
  | cons r rr =>
    cases rr
    cases r
    obtain ⟨its, rv, p', hz⟩ := I1.list hq
    refine call_enumerate_list p'.isList fun h' he hit hsz hk => ?_
    have hal : a < s1.heap.objs.size := let ⟨_, ho, _⟩ := p'.isList; Heap.lt_size ho
    refine en_call (s := { s1 with heap := h' }) (items := its.toArray) (I1.ok.hd hc) he hit (p'.isList.at fun o x => hk _ o x) (Nat.succ_ne_self _) (Nat.ne_of_lt (Nat.lt_succ_of_lt hal)) (Nat.ne_of_lt hal) (by rw [List.size_toArray, ← rv.length]; exact hz) fun h2 tk acc c as hk2 hS hlen hG hacc => ?_
    have hlo : ∀ b ∈ as, s1.heap.objs.size ≤ b := fun b hb => by
      have h1 := hG.above b hb
      have h1 : h'.objs.size < b := h1
      rw [hsz] at h1
      exact Nat.le_of_lt (Nat.lt_trans (Nat.lt_add_of_pos_right (by decide)) h1)
    have hS' : h2.get? (s1.heap.objs.size + 2) = some { cls := .type "list", dict := none, data := .seq acc c, slots := #[] } := by rw [← hsz]; exact hS
    have hnd : as.Nodup := hG.rise.imp fun h => Nat.ne_of_lt h
    have hla : h'.objs.size ∉ as := fun z => Nat.lt_irrefl _ (hG.above _ z)
    have hlen2 : as.length = xs.length := by rw [hlen, List.size_toArray, rv.length]
    have hkeep : ∀ b u, s1.heap.get? b = some u → h2.get? b = some u := fun b u x => hk2 b u (Nat.ne_of_lt (Nat.lt_succ_of_lt (Heap.lt_size x))) (Nat.ne_of_lt (Heap.lt_size x)) (hk b u x)
    have hln : H1 h'.objs.size = none := I1.hok.fresh (by rw [hsz]; exact Nat.le_add_right _ _)
    have han : ∀ b ∈ as, H1 b = none := fun b hb => I1.hok.fresh (hlo b hb)
    have old : ∀ b o, H1 b = some o → (upd (layT H1 0 as xs) h'.objs.size (.lst (as.map V.ref))) b = some o := fun b o x => by
      rw [upd_ne (ne_of_none x hln), layT_off (fun z => by rw [han b z] at x; cases x)]
      exact x
    have u : Un X.fs [] H1 (upd (layT H1 0 as xs) h'.objs.size (.lst (as.map V.ref))) s1.heap h2 := {
      keep := fun b u q _ _ _ => hkeep b u q
      slot := fun b u q _ _ _ => ⟨u.slots, hkeep b u q⟩
      free := fun b u q n _ => by
        rw [upd_ne (Nat.ne_of_lt (Nat.lt_of_lt_of_le (Heap.lt_size q) (by rw [hsz]; exact Nat.le_add_right _ _))), layT_off (fun z => Nat.lt_irrefl _ (Nat.lt_of_lt_of_le (Heap.lt_size q) (hlo b z)))]
        exact n
      there := fun b u q _ => ⟨u, hkeep b u q⟩
      tups := fun b xs q => old b _ q
      frzs := fun b u xs q => old b _ q
      tbls := fun b ps q => ⟨#[], by rw [old b _ q]; simp⟩ }
    have hok : HOk X.prog X.w (upd (layT H1 0 as xs) h'.objs.size (.lst (as.map V.ref))) h2 := fun b o x => by
      by_cases hb : b = h'.objs.size
      · subst hb
        rw [upd_same] at x
        cases x
        refine ⟨by rw [List.length_map, hlen2]; exact hz, as.map Value.ref, c, vals_refs, ?_⟩
        rw [← hacc]
        exact hS
      · rw [upd_ne hb] at x
        rcases layT_tup x with x | ⟨i, y, h1, h2', rfl⟩
        · exact (I1.hok b o x).stay (fun c v _ q => hkeep c v q) (fun c q => old c _ q) fun c xs q => old c _ q
        · obtain ⟨hj, t, ht⟩ := hG.pairs i b h1
          obtain ⟨w, hw, rw'⟩ := rv.get h2'
          have hwi : its.toArray[i] = w := by
            have := Array.getElem?_eq_getElem hj
            have h3 : its.toArray[i]? = some w := by simpa using hw
            rw [this] at h3
            exact Option.some.inj h3
          rw [hwi] at ht
          rw [Nat.zero_add]
          exact ⟨by show 2 ≤ sizeLine; decide, [.int (i : Nat) t, w], .cons ⟨_, rfl⟩ (.cons rw' .nil), ⟨_, ht, rfl, _, rfl⟩⟩
    exact ⟨.ref h'.objs.size, _, I1.un (t' := tk) u hok, rfl, q _ as hln hla hnd han hlen2⟩
end Px
set_option Elab.async false
set_option linter.all false
set_option maxRecDepth 100000
set_option maxHeartbeats 4000000
namespace Px
open PySem L2
section
variable {K : PySem.W.Frag} {σ : L2.St} {H : Hp} {ta tb tc te tl : TE} {t u : TT} {x y z v : V} {D : Ends} {s1 s2 s3 tu : TS} {n : Nat} {i j k : Int} {P R : Prop} {Q : VK}
theorem w_c (h : Q v H) : tC v σ H Q := h
theorem w_v' (e : σ[n]? = some (some v)) (h : Q v H) : tVar n σ H Q := ⟨v, e, h⟩
theorem r_add (h : Q (.int (i + j)) H) : oAdd (.int i) (.int j) H Q := ⟨_, _, rfl, rfl, h⟩
theorem r_sub (h : Q (.int (i - j)) H) : oSub (.int i) (.int j) H Q := ⟨_, _, rfl, rfl, h⟩
theorem r_mul (c : CMulW i j) (h : Q (.int (i * j)) H) : oMul (.int i) (.int j) H Q := ⟨_, _, rfl, rfl, c, h⟩
theorem r_div (c : CDivW i j) (h : Q (.int (i / j)) H) : oDiv (.int i) (.int j) H Q := ⟨_, _, rfl, rfl, c, h⟩
theorem r_mod (c : 0 < j) (h : Q (.int (i % j)) H) : oMod (.int i) (.int j) H Q := ⟨_, _, rfl, rfl, c, h⟩
theorem r_pow (c : CPow i j) (h : Q (.int (i ^ j.toNat)) H) : oPow (.int i) (.int j) H Q := ⟨_, _, rfl, rfl, c, h⟩
theorem r_lt (h : Q (.bl (decide (i < j))) H) : oLt (.int i) (.int j) H Q := ⟨_, _, rfl, rfl, h⟩
theorem r_le (h : Q (.bl (decide (i ≤ j))) H) : oLe (.int i) (.int j) H Q := ⟨_, _, rfl, rfl, h⟩
theorem r_gt (h : Q (.bl (decide (j < i))) H) : oGt (.int i) (.int j) H Q := ⟨_, _, rfl, rfl, h⟩
theorem r_ge (h : Q (.bl (decide (j ≤ i))) H) : oGe (.int i) (.int j) H Q := ⟨_, _, rfl, rfl, h⟩
theorem r_min (h : Q (.int (if j < i then j else i)) H) : cMin [.int i, .int j] H Q := ⟨_, _, rfl, h⟩
theorem r_max (h : Q (.int (if j > i then j else i)) H) : cMax [.int i, .int j] H Q := ⟨_, _, rfl, h⟩
theorem r_len {p : Addr} {xs : List V} (s : SqL K H p xs) (h : Q (.int xs.length) H) : cLen K [.ref p] H Q := ⟨p, xs, rfl, .inl s, h⟩
theorem r_intB {b : Bool} (h : Q (.int (if b then 1 else 0)) H) : cInt [.bl b] H Q := .inr ⟨b, rfl, h⟩
theorem r_ix {p : Addr} {xs : List V} (s : SqL K H p xs) (e : atI xs i = some v) (h : Q v H) : rIxL K (.ref p) (.int i) H Q := ⟨p, xs, i, v, rfl, rfl, s, e, h⟩
theorem w_sl {r : TO → TO → TE} {tl th : TO} {a : Addr} {xs : List V} {lo hi : Option Int} (h : Ev te σ H (.ref a)) (h1 : EvO tl σ H lo) (h2 : EvO th σ H hi) (hs : SqL K H a xs) (k : ∀ p, H p = none → Q (.ref p) (upd H p (.lst (cutV xs lo hi)))) : tSl (rSlL K) te tl th σ H Q := el_sl h h1 h2 hs Q k
theorem q_retN {s : TS} (h : s D σ H) : s D σ H := h
theorem q_asg {g : TG} (h : te σ H fun x H1 => g x σ H1 fun σ2 H2 => s2 D σ2 H2) : tSeq (tAsg te g) s2 D σ H := h
theorem s_asg {g : TG} (h : te σ H fun x H1 => g x σ H1 D.nx) : tAsg te g D σ H := h
theorem w_rep1 {k : Int} {b : Bool} {a : Addr} (ha : H a = some (.lst [x])) (h : ∀ p, H p = none → Q (.ref p) (upd H p (.lst (if b then [x] else [])))) : rRep (.ref a) (.int (if b then 1 else 0)) H Q := by
  refine ⟨a, _, [x], rfl, rfl, ha, ?_, ?_, ?_, fun p hp => ?_⟩
  · cases b <;> simp
  · cases b <;> simp
  · cases b <;> simp <;> decide
  · have := h p hp
    cases b <;> simpa using this
/-- [te for i in range(k)], te may change things -/
theorem w_lcR {ta : TA} {k : Int} {vs : List Nat} (h : EvA ta σ H [.int k]) (hk : 0 ≤ k ∧ k < 2 ^ 60) (Pv : Addr → Nat → Hp → Prop) (h0 : ∀ D, H D = none → Pv D 0 (upd H D (.lst [])))
    (hw : ∀ x, wipe ((wipe σ vs).set n (some x)) vs = wipe σ vs) (hs : ∀ D (i : Nat) H', H D = none → (i : Int) < k → Pv D i H' → te ((wipe σ vs).set n (some (.int (i : Int)))) H' fun y H4 => ∃ acc, H4 D = some (.lst acc) ∧ acc.length < sizeLine ∧ Pv D (i + 1) (upd H4 D (.lst (acc ++ [y]))))
    (hd : ∀ D H', H D = none → Pv D k.toNat H' → Q (.ref D) H') : tLc (iRng1 ta) (gName n) tYes te vs σ H Q := h _ ⟨k, rfl, by omega, by omega, fun D hD =>
  lc_range (lo := 0) (n := k.toNat) (Pv D) (h0 D hD) (fun i H' hi hv => by
    show wipe ((wipe σ vs).set n (some (.int (0 + (i : Int))))) vs = wipe σ vs ∧ _
    rw [Int.zero_add]
    exact ⟨hw _, et_yes _ (iteT (hs D i H' hD (by omega) hv))⟩) (fun H' hv => hd D H' hD hv)⟩
/-- [te for x in xs if tt], te may change things -/
theorem w_lcL {a : Addr} {xs : List V} {vs : List Nat} (h : Ev tl σ H (.ref a)) (hx : SqL K H a xs) (Pv : Addr → Nat → Hp → Prop) (h0 : ∀ D, H D = none → Pv D 0 (upd H D (.lst []))) (hl : ∀ D i H', H D = none → Pv D i H' → SqL K H' a xs)
    (hw : ∀ x, wipe ((wipe σ vs).set n (some x)) vs = wipe σ vs) (hs : ∀ D (i : Nat) x H', H D = none → xs[i]? = some x → Pv D i H' → t ((wipe σ vs).set n (some x)) H' fun b H3 => if b = true then te ((wipe σ vs).set n (some x)) H3 fun y H4 => ∃ acc, H4 D = some (.lst acc) ∧ acc.length < sizeLine ∧ Pv D (i + 1) (upd H4 D (.lst (acc ++ [y]))) else Pv D (i + 1) H3)
    (hd : ∀ D H', H D = none → Pv D xs.length H' → Q (.ref D) H') : tLc (iList K tl) (gName n) t te vs σ H Q := h _ ⟨a, rfl, ⟨xs, hx⟩, fun D hD =>
  lc_list (xs := xs) (Pv D) (h0 D hD) (fun i H' _ hv => hl D i H' hD hv) (fun i x H' hi hv => ⟨hw x, hs D i x H' hD hi hv⟩) (fun H' hv => hd D H' hD hv)⟩
theorem szl {m : Nat} (h : m < 16000000) : m < sizeLine := Nat.lt_of_lt_of_le h (by decide)
/-- an if without an else: I holds behind it on both ways -/
theorem q_whenI (I : L2.St → Hp → Prop) (h : EvP t σ H P) (h1 : P → ∀ N : L2.St → Hp → Prop, (∀ σ' H', I σ' H' → N σ' H') → s1 { D with nx := N } σ H) (h2 : ¬ P → I σ H) (k : ∀ σ' H', I σ' H' → s3 D σ' H') : tSeq (tIfS t s1 tNext) s3 D σ H :=
  q_whenP h (fun p => h1 p _ k) fun p => k _ _ (h2 p)
theorem s_ifW (h : t σ H fun b H1 => if b = true then s1 D σ H1 else s2 D σ H1) : tIfS t s1 s2 D σ H := h
theorem q_ifW (h : t σ H fun b H1 => if b = true then s1 { D with nx := s3 D } σ H1 else s2 { D with nx := s3 D } σ H1) : tSeq (tIfS t s1 s2) s3 D σ H := h
theorem w_and {Q : Bool → Hp → Prop} (h : t σ H fun b H1 => if b = true then u σ H1 Q else Q false H1) : tAnd t u σ H Q := h
theorem w_or {Q : Bool → Hp → Prop} (h : t σ H fun b H1 => if b = true then Q true H1 else u σ H1 Q) : tOr t u σ H Q := h
theorem w_not {Q : Bool → Hp → Prop} (h : t σ H fun b H1 => Q (!b) H1) : tNot t σ H Q := h
theorem w_tst {Q : Bool → Hp → Prop} (h : te σ H fun v H1 => ∃ b, v = .bl b ∧ Q b H1) : tTest te σ H Q := h
theorem w_evT {b : Bool} {Q : Bool → Hp → Prop} (h : EvT t σ H b) (q : Q b H) : t σ H Q := h Q q
theorem by_dec {P A B : Prop} [Decidable P] (h1 : P → A) (h2 : ¬ P → B) : if decide P = true then A else B := by
  by_cases h : P
  · rw [decide_eq_true h]; exact iteT (h1 h)
  · rw [decide_eq_false h]; exact iteF (h2 h)
theorem q_par {i j : Nat} {ta : TA} {v w : V} (h : EvA ta σ H [v, w]) (k : s2 D ((σ.set i (some v)).set j (some w)) H) : tSeq (tPar i j ta) s2 D σ H := h _ ⟨v, w, rfl, k⟩
theorem q_parW {i j : Nat} {ta : TA} (h : ta σ H fun vs H1 => ∃ v w, vs = [v, w] ∧ s2 D ((σ.set i (some v)).set j (some w)) H1) : tSeq (tPar i j ta) s2 D σ H := h
theorem w_appR {a : Addr} {xs : List V} {t : TA} (ha : Ev ta σ H (.ref a)) (hx : SqL K H a xs) (ht : t σ H fun vs H2 => rAppend (.ref a) vs H2 Q) : tBM K "list" rAppend ta t σ H Q := ha _ ⟨.inl ⟨rfl, _, hx⟩, ht⟩
theorem w_revR {a : Addr} {xs : List V} (ha : Ev ta σ H (.ref a)) (hx : SqL K H a xs) (h : rReverse (.ref a) [] H Q) : tBM0 K "list" rReverse ta σ H Q := ha _ ⟨.inl ⟨rfl, _, hx⟩, h⟩
theorem w_andV (h : ta σ H fun x H1 => ∃ c, x = .bl c ∧ if c = true then tb σ H1 Q else Q (.bl false) H1) : tAndV ta tb σ H Q := h
theorem w_orV (h : ta σ H fun x H1 => ∃ c, x = .bl c ∧ if c = true then Q (.bl true) H1 else tb σ H1 Q) : tOrV ta tb σ H Q := h
end
end Px
set_option Elab.async false
set_option linter.all false
set_option maxRecDepth 100000
set_option maxHeartbeats 4000000
namespace Px
open PySem L2
/-! ### own classes -/
def clsBody (s : Stmt) : List Stmt := match s with
  | .ClassDef _ _ _ b _ _ _ _ _ _ _ => b
  | _ => []
abbrev FnQ (K : PySem.W.Frag) (x qual : Str) (st : Stmt) (f : Addr) (fd : FuncData) : Prop := FunD K x qual (defArgs st) (defBody st) (defScope st) [] [] f fd
/-- a method of the class at C -/
structure Mfn (P : Program) (w : World) (K : PySem.W.Frag) (mg : Str → Option Value) (base : Heap) (C : Addr) (m : Str) (k : Nat) (ps : List Str) (sp : Sp) : Prop where
  ex : ∃ (f : Addr) (fd : FuncData), FnOk P w K mg base CX0 k f fd ps sp ∧ Meth K C m f ∧ Binds K fd ps []
structure Ifn (P : Program) (w : World) (K : PySem.W.Frag) (mg : Str → Option Value) (base : Heap) (C : Addr) (k : Nat) (ps : List Str) (sp : Sp) : Prop where
  ex : ∃ (f : Addr) (fd : FuncData), FnOk P w K mg base CX0 k f fd ps sp ∧ L2.Mk K C f ∧ Binds K fd ps []
section
variable {X : Cx} {C : Addr} {m x : Str} {k : Nat} {ps : List Str} {sp : Sp} {o e : Expr} {es : List Expr} {ta : TE} {t : TA} {apos pos p : Pos}
theorem pe_mth {pl : Sem Bool} (F : Mfn X.prog X.w X.K X.mg X.base C m k ps sp) (c : Cls X.K C) (hr : Room k X.A) (he : PE X o ta) (ha : PA X (e :: es) t)
    (hst : starEach (e :: es) X.env = (false, eval e X.env) :: starEach es X.env := by rfl) (hpl : (backTo pos (starEach es X.env)).any (·.1) = false := by rfl)
    (ht : eval (.Call (.Attribute o m apos) (e :: es) [] pos) X.env = (do
      let ov ← eval o X.env
      standAt apos.atName
      let (f, first) ← holding [ov] (getMethod ov m pl)
      callWith pos f first (backTo pos (starEach (e :: es) X.env)) (backToKw pos (keywordEach [] X.env))) := by rfl) :
    PE X (.Call (.Attribute o m apos) (e :: es) [] pos) (tMeth C m sp [] E0 ta t) := by
  obtain ⟨f, fd, F1, M, b⟩ := F.ex
  exact pe_meth he c M F1 hr b .nil pass0 ha hst hpl ht
theorem pe_mth0 {pl : Sem Bool} (F : Mfn X.prog X.w X.K X.mg X.base C m k ps sp) (c : Cls X.K C) (hr : Room k X.A) (he : PE X o ta)
    (ht : eval (.Call (.Attribute o m apos) [] [] pos) X.env = (do
      let ov ← eval o X.env
      standAt apos.atName
      let (f, first) ← holding [ov] (getMethod ov m pl)
      callWith pos f first (backTo pos (starEach [] X.env)) (backToKw pos (keywordEach [] X.env))) := by rfl) :
    PE X (.Call (.Attribute o m apos) [] [] pos) (tMeth C m sp [] E0 ta tNil) := by
  obtain ⟨f, fd, F1, M, b⟩ := F.ex
  exact pe_meth0 he c M F1 hr b .nil pass0 ht
theorem pe_mk (F : Ifn X.prog X.w X.K X.mg X.base C k ps sp) (hr : Room (k + 1) X.A) (hm : X.mg x = some (.ref C)) (ha : PA X (e :: es) t) (hg : Gl X x := by rfl)
    (hdb : (x == ("__debug__" : Str)) = false := by decide) (he : starEach (e :: es) X.env = (false, eval e X.env) :: starEach es X.env := by rfl) (hpl : (backTo pos (starEach es X.env)).any (·.1) = false := by rfl) :
    PE X (.Call (.Name x p) (e :: es) [] pos) (tMake C sp [] E0 t) := by
  obtain ⟨f, fd, F1, M, b⟩ := F.ex
  exact pe_make M F1 hr hg hm b .nil pass0 ha hdb he hpl
end
section
variable {K : PySem.W.Frag} {σ : L2.St} {B H H' : Hp} {L : List (Addr × List V)} {ta te : TE} {t : TA} {x C dx : Addr} {fs fs' : List (Str × V)} {f m : Str} {v : V} {Q : VK} {D : Ends} {s2 : TS}
theorem ev_fld (c : Cls K C) (n : NoAttr K C f) (h : Ev ta σ H (.ref x)) (e : H x = some (.ins C dx fs)) (l : fs.lookup f = some v) : Ev (tFld K ta f) σ H v := fun Q q => h _ ⟨x, C, dx, fs, v, rfl, e, c, n, l, q⟩
theorem q_fld (c : Cls K C) (n : NoAttr K C f) (hv : Ev te σ H v) (h : Ev ta σ H (.ref x)) (e : H x = some (.ins C dx fs)) (hl : fs.length < 1000) (k : s2 D σ (upd H x (.ins C dx (putF f v fs)))) : tSeq (sFld K ta te f) s2 D σ H := hv _ (h _ ⟨x, C, dx, fs, rfl, e, c, n, hl, k⟩)
theorem s_fld (c : Cls K C) (n : NoAttr K C f) (hv : Ev te σ H v) (h : Ev ta σ H (.ref x)) (e : H x = some (.ins C dx fs)) (hl : fs.length < 1000) (k : D.nx σ (upd H x (.ins C dx (putF f v fs)))) : sFld K ta te f D σ H := hv _ (h _ ⟨x, C, dx, fs, rfl, e, c, n, hl, k⟩)
theorem q_fldL {xs : List V} (c : Cls K C) (n : NoAttr K C f) (hv : EvL te σ H xs) (h : ∀ p, H p = none → Ev ta σ (upd H p (.lst xs)) (.ref x)) (e : H x = some (.ins C dx fs)) (hl : fs.length < 1000) (k : ∀ p, H p = none → s2 D σ (upd (upd H p (.lst xs)) x (.ins C dx (putF f (.ref p) fs)))) : tSeq (sFld K ta te f) s2 D σ H :=
  hv _ fun p hp => h p hp _ ⟨x, C, dx, fs, rfl, by rw [upd_ne (ne_of_none e hp)]; exact e, c, n, hl, k p hp⟩
theorem w_mth {sp : Sp} (h : Ev ta σ H (.ref x)) (e : H x = some (.ins C dx fs)) (l : fs.lookup m = none) (k : t σ H fun vs H2 => sp (.ref x :: (vs ++ [])) H2 Q E0) : tMeth C m sp [] E0 ta t σ H Q := h _ ⟨x, dx, fs, rfl, e, l, k⟩
theorem w_mk {sp : Sp} (k : t σ H fun vs H1 => ∀ x dx, H1 x = none → H1 dx = none → dx ≠ x → sp (.ref x :: (vs ++ [])) (upd (upd H1 dx (.own x)) x (.ins C dx [])) (fun v H2 => v = .non ∧ Q (.ref x) H2) E0) : tMake C sp [] E0 t σ H Q := k
/-- an instance of the base is changed -/
theorem Own.fput (o : Own B L H) (h : B x = some (.ins C dx fs)) : Own (upd B x (.ins C dx fs')) L (upd H x (.ins C dx fs')) where
  nod := have := o.nod; inferInstance
  ex := fun b u hb => by
    by_cases e : b = x
    · subst e; rw [upd_same] at hb ⊢; exact hb
    · rw [upd_ne e] at hb ⊢; exact o.ex b u hb
  off := fun q hq => by
    have : q.1 ≠ x := fun e => by have := o.off q hq; rw [e, h] at this; cases this
    rw [upd_ne this]; exact o.off q hq
  dis := o.dis
  has := fun q hq => by
    have : q.1 ≠ x := fun e => by have := o.off q hq; rw [e, h] at this; cases this
    rw [upd_ne this]; exact o.has q hq
/-- anything flat and new is part of the base -/
theorem Own.newB {u : HO} {p : Addr} (o : Own B L H) (hp : H p = none) (n : Nod (upd H p u)) : Own (upd B p u) L (upd H p u) where
  nod := n
  ex := fun b w hb => by
    by_cases e : b = p
    · subst e; rw [upd_same] at hb ⊢; exact hb
    · rw [upd_ne e] at hb ⊢; exact o.ex b w hb
  off := fun q hq => by rw [upd_ne (ne_of_none (o.has q hq) hp)]; exact o.off q hq
  dis := o.dis
  has := fun q hq => by rw [upd_ne (ne_of_none (o.has q hq) hp)]; exact o.has q hq
end
/-! ### what a method leaves -/
theorem fg_ins {H H' : Hp} {x C dx : Addr} {fs fs' : List (Str × V)} [n : Nod H] (hx : H x = some (.ins C dx fs)) (e : ∀ a u, a ≠ x → H a = some u → H' a = some u) (h : H' x = some (.ins C dx fs')) : Fg H H' (upd H x (.ins C dx fs')) where
  sub := fun a o q => by
    by_cases z : a = x
    · subst z; rw [upd_same] at q; rw [h]; exact q
    · rw [upd_ne z] at q; exact e a o z q
  old := fun a o q => by
    by_cases z : a = x
    · subst z; rw [upd_same, h]
    · rw [upd_ne z, q]; exact (e a o z q).symm
  own := fun a y q => e a _ (fun z => by rw [z, hx] at q; cases q) q
  ins := fun a C' dx' fs'' q => by
    by_cases z : a = x
    · subst z; rw [upd_same] at q; cases q; exact ⟨fs, hx⟩
    · rw [upd_ne z] at q; exact ⟨_, q⟩
  frz := fun a o u q => by
    by_cases z : a = x
    · subst z; rw [upd_same] at q; cases q
    · rw [upd_ne z] at q; exact q
  nod := fun a o q => by
    by_cases z : a = x
    · subst z; rw [upd_same] at q; cases q; trivial
    · rw [upd_ne z] at q; exact n.nod a o q
theorem fg_insL {H H' : Hp} {x C dx p : Addr} {fs fs' : List (Str × V)} {xs : List V} [n : Nod H] (hx : H x = some (.ins C dx fs)) (hp : H p = none) (e : ∀ a u, a ≠ x → H a = some u → H' a = some u) (h : H' x = some (.ins C dx fs')) (h2 : H' p = some (.lst xs)) : Fg H H' (upd (upd H p (.lst xs)) x (.ins C dx fs')) := by
  have hxp : x ≠ p := ne_of_none hx hp
  exact {
    sub := fun a o q => by
      by_cases z : a = x
      · subst z; rw [upd_same] at q; rw [h]; exact q
      · rw [upd_ne z] at q
        by_cases y : a = p
        · subst y; rw [upd_same] at q; rw [h2]; exact q
        · rw [upd_ne y] at q; exact e a o z q
    old := fun a o q => by
      by_cases z : a = x
      · subst z; rw [upd_same, h]
      · rw [upd_ne z, upd_ne (ne_of_none q hp), q]; exact (e a o z q).symm
    own := fun a y q => e a _ (fun z => by rw [z, hx] at q; cases q) q
    ins := fun a C' dx' fs'' q => by
      by_cases z : a = x
      · subst z; rw [upd_same] at q; cases q; exact ⟨fs, hx⟩
      · rw [upd_ne z] at q
        by_cases y : a = p
        · subst y; rw [upd_same] at q; cases q
        · rw [upd_ne y] at q; exact ⟨_, q⟩
    frz := fun a o u q => by
      by_cases z : a = x
      · subst z; rw [upd_same] at q; cases q
      · rw [upd_ne z] at q
        by_cases y : a = p
        · subst y; rw [upd_same] at q; cases q
        · rw [upd_ne y] at q; exact q
    nod := fun a o q => by
      by_cases z : a = x
      · subst z; rw [upd_same] at q; cases q; trivial
      · rw [upd_ne z] at q
        by_cases y : a = p
        · subst y; rw [upd_same] at q; cases q; trivial
        · rw [upd_ne y] at q; exact n.nod a o q }
end Px
set_option Elab.async false
set_option linter.all false
set_option maxRecDepth 100000
set_option maxHeartbeats 4000000
namespace Px
open PySem PySem.Spec PyProof.Rows L2
/-! ### exceptions that are kept behind their clause -/
/-- an exception of the own class at D, as a thing of the heap -/
def excH (a D : Addr) : HO := .ext fun h => ∃ oe, PySem.W.InstAt h a oe D none
theorem exc_inst {h : Heap} {a D : Addr} {oe : Obj} (hg : h.get? a = some oe) (hz : Zc (.ref D) none oe) (hf : ∃ vs, oe.data = .fields vs) : PySem.W.InstAt h a oe D none := by
  obtain ⟨vs, hv⟩ := hf
  obtain ⟨oc, od, oda, osl⟩ := oe
  obtain ⟨h1, h2⟩ := hz
  dsimp only at h1 h2 hv
  subst h1 h2 hv
  exact ⟨hg, rfl, rfl, trivial⟩
theorem exc_ok {P : Program} {w : World} {H : Hp} {h : Heap} {a D : Addr} {oe : Obj} (hg : h.get? a = some oe) (hz : Zc (.ref D) none oe) (hf : ∃ vs, oe.data = .fields vs) : ObjOk P w H h a (excH a D) :=
  ⟨⟨oe, exc_inst hg hz hf⟩, ⟨oe, hg⟩, fun h1 h2 ⟨o, i⟩ k => by
    obtain ⟨i1, i2, i3, i4⟩ := i
    refine ⟨o, ⟨k o i1, i2, i3, ?_⟩⟩
    cases hd : o.dict with
    | none => trivial
    | some dx => rw [hd] at i4; exact i4.elim⟩
section
variable {X : Cx} {pins : List (Addr × Obj)} {σ : L2.St} {H : Hp} {s : Shared}
/-- a thing of the heap is tracked from now on -/
theorem Inv.adopt {a : Addr} {u : HO} (I : Inv X pins σ H s) (h0 : X.s_0.heap.get? a = none) (na : H a = none) (nL : a ≠ X.env.locals) (nC : ∀ x c, X.env.cells.lookup x = some c → c ≠ a) (hp : ∀ p ∈ X.pn ++ pins, p.1 ≠ a) (ok : ObjOk X.prog X.w (upd H a u) s.heap a u) : Inv X pins σ (upd H a u) s := by
  have ne : ∀ b o, H b = some o → b ≠ a := fun b o e z => by rw [z, na] at e; cases e
  have up : ∀ b o, H b = some o → upd H a u b = some o := fun b o e => by rw [upd_ne (ne b o e)]; exact e
  refine ⟨I.ok, I.os, I.bare, ⟨I.base.keep, I.base.slot, fun b o e n hx => ?_, I.base.there, fun b xs e => up _ _ (I.base.tups b xs e), fun b o u' e => up _ _ (I.base.frzs b o u' e), fun b ps e => ?_⟩, I.loc, I.cell, ?_, fun x c e => ?_, fun p hp' => ?_, fun b o e => ?_, I.len⟩
  · rw [upd_ne (fun z => by rw [z, h0] at e; cases e)]
    exact I.base.free b o e n hx
  · obtain ⟨more, e2⟩ := I.base.tbls b ps e
    exact ⟨more, up _ _ e2⟩
  · rw [upd_ne (Ne.symm nL)]; exact I.free
  · rw [upd_ne (nC x c e)]; exact I.freeC x c e
  · obtain ⟨h1, h2, h3⟩ := I.pin p hp'
    exact ⟨h1, by rw [upd_ne (hp p hp')]; exact h2, h3⟩
  · by_cases z : b = a
    · subst z
      rw [upd_same] at e
      cases e
      exact ok
    · rw [upd_ne z] at e
      exact (I.hok b o e).stay (fun c w' hc q => q) (fun y q => up _ _ q) fun y z q => up _ _ q
/-- what a try wishes whose clause keeps the exception: slot i is the clause's name -/
def wKeep (K : PySem.W.Frag) (c : Value) (i : Nat) (ts : Addr → TS) (Wout : WX) (D : Ends) : WX := fun cls d σ H =>
  ∃ b, PySem.W.exmOne K cls c = some b ∧ (b = true → ∃ C, cls = .ref C ∧ d = none ∧ ∀ a, H a = none → ts a { nx := fun σ' H' => D.nx (σ'.set i none) (upd H' a (excH a C)), rt := fun _ _ => False, bk := fun _ _ => False, ct := fun _ _ => False } (σ.set i (some (.ref a))) H) ∧
    (b = false → Wout cls d σ H)
end
section
variable {X : Cx} {x n : Str} {c : Value} {i : Nat} {body suite : List Stmt} {b₀ : Stmt} {np pos pos' : Pos} {tb : WX → TS} {ts : Addr → TS} {Wout : WX}
theorem ps_try_keep (hs : X.stack = X.env :: X.outer) (hf : X.env.frame = some X.env.locals) (hex : X.ex = []) (hcl : ∀ x c, X.env.cells.lookup x = some c → False) (hN : X.N.Nodup) (hi : X.N[i]? = some n) (hln : X.env.kindOf n = some .local) (hc : Names X x c) (tk : Takes X Wout)
    (hb : ∀ (W : WX) (pn : List (Addr × Obj)) (xe : Value → Shared → Prop), Takes (X.tr pn xe) W → PassesOwn (model X.prog X.w) X.A X.env xe → PSs (X.tr pn xe) body (tb W))
    (hsu : ∀ (a : Addr) (pn : List (Addr × Obj)), PSs (X.suite a pn) (b₀ :: suite) (ts a)) :
    PS X (.Try body [.ExceptHandler (some (.Name x np)) (some n) (b₀ :: suite) pos'] [] [] pos) (fun D σ H => tb (wKeep X.K c i ts Wout D) D σ H) := by
  refine ⟨fun pins s σ H D I h => ?_⟩
  have ok := I.ok
  have hfr : X.A.frames = some (X.env :: X.outer) := by rw [ok.frames, hs]
  have hloc : Loc X.env.scope n := .inl hln
  refine wpAny_Try_except ?_
  refine wpAny_mono ((hb (wKeep X.K c i ts Wout D) (X.pn ++ pins) (fun e s₁ => wpAny (model X.prog X.w) X.A (noteFrame e X.env) (fun _ s₂ => wpAny (model X.prog X.w) X.A (setFlight e none) (fun _ s₃ =>
    wpAny (model X.prog X.w) X.A (handleBy e X.env [.ExceptHandler (some (.Name x np)) (some n) (b₀ :: suite) pos']) (SP X pins D) X.xe s₃) X.xe s₂) X.xe s₁) (fun u s' xx => ?_) PassesOwn.looking).run [] s σ H D (I.toTry _) h) (fun f s1 hsp => ?_) (fun e s1 he => he)
  · -- the catch
    obtain ⟨a, B, sI, pins', σ', H', cls, d, rfl, J', nb, up, sky, na, os, ag, b, hb1, hyes, hno⟩ := xx
    have J : Inv X pins σ' H' sI := J'.ofTry ok
    have sky' : Sky B (X.env :: X.outer) a (Zc cls d) X.env.locals s'.heap := by rw [← hs]; exact sky
    show wpAny (model X.prog X.w) X.A (noteFrame (.ref a) X.env) _ _ _
    refine Sky.land Zc.steady hfr hf sky' fun h3 fl3 up3 => ?_
    have J3 : Inv X pins σ' H' { s' with heap := h3 } := J.landed nb fl3.1 (up.trans up3) os ag
    obtain ⟨oe3, vs3, he3, hz3, hd3⟩ := fl3.there
    have notFr : ∀ {h : Heap} {o : Obj} {vs : Array Value}, h.FunFrames B (X.env :: X.outer) → h.get? a = some o → o.data = .fields vs → a ∉ frs (X.env :: X.outer) := fun {h o vs} ff e dd hm => by
      obtain ⟨_, o', e', hnf⟩ := ff.mem hm
      rw [e] at e'; cases e'
      exact hnf _ dd
    have nfr := notFr fl3.2.2.1 he3 hd3
    have nL : a ≠ X.env.locals := fun z => nfr (List.mem_filterMap.mpr ⟨X.env, List.mem_cons_self, by rw [hf, z]⟩)
    have nF : a ∉ X.fs := fun hm => by
      obtain ⟨e, he, q⟩ := List.mem_filterMap.mp hm
      exact nfr (List.mem_filterMap.mpr ⟨e, List.mem_cons_of_mem _ he, q⟩)
    have hnew : X.s_0.heap.get? a = none := by
      cases e0 : X.s_0.heap.get? a with
      | none => rfl
      | some o0 =>
        obtain ⟨o1, e1⟩ := J.base.there a o0 e0 (by rw [hex]; exact List.not_mem_nil)
        have e2 := nb a o1 e1 (by rw [hs]; exact nfr)
        rw [fl3.2.1] at e2
        cases e2
    have hInone : sI.heap.get? a = none := by
      cases e1 : sI.heap.get? a with
      | none => rfl
      | some o1 =>
        have e2 := nb a o1 e1 (by rw [hs]; exact nfr)
        rw [fl3.2.1] at e2
        cases e2
    have hpn : ∀ p ∈ X.pn ++ pins, p.1 ≠ a := fun p hp z => by
      have := (J.pin p hp).1
      rw [z, hInone] at this
      cases this
    have S3 := J3.suite he3 hd3 na nL nF
    refine wpAny_handleBy_cons (codeAny_handlers_test ?_) (by intro q; cases q)
    have LT : PySem.W.Looks (model X.prog X.w) h3 (typeOf (.ref a)) cls := fun A Q E s k q => wpAny_typeOf_ref (k _ _ he3) (by rw [hz3.1]; exact q)
    have LM := PySem.W.exm_one (M := model X.prog X.w) (J3.kIn) LT hb1
    have test : ∀ {Q : Value → Shared → Prop} {E : Value → Shared → Prop}, Q c { s' with heap := h3 } → wpAny (model X.prog X.w) (X.A.mark (some (.ref a))) (eval (.Name x np) X.env) Q E { s' with heap := h3 } := fun {Q E} q => by
      obtain ⟨hg, hdbg, hm | ⟨hm, hv, hnn⟩⟩ := hc
      · exact ld_glob (X := X.suite a ((a, oe3) :: (X.pn ++ pins))) S3 hg hm q hdbg
      · exact ld_blt (X := X.suite a ((a, oe3) :: (X.pn ++ pins))) S3 hg hm hv q hnn hdbg
    refine test (LM.here ?_)
    cases b with
    | true =>
      obtain ⟨C, rfl, rfl, hy2⟩ := hyes rfl
      refine codeAny_handlers_suite_as ?_
      refine HandSPX.lands_againZ fl3 fun h4 fl4 up4 => ?_
      have J4 : Inv X pins σ' H' { s' with heap := h4 } := J.landed nb fl4.1 ((up.trans up3).trans up4) os ag
      obtain ⟨oe4, vs4, he4, hz4, hd4⟩ := fl4.there
      have S4 := J4.suite he4 hd4 na nL nF
      refine store_ok (X := X.suite a ((a, oe4) :: (X.pn ++ pins))) (v := .ref a) S4 hN hi hloc rfl (fun s5 S5 => ?_) (.inr hln)
      refine wpAny_mono ((hsu a ((a, oe4) :: (X.pn ++ pins))).run [] s5 _ H' _ S5 (hy2 a na)) (fun f s6 hsp => ?_) (fun _ _ z => False.elim z)
      cases f with
      | next =>
        obtain ⟨σ6, H6, S6, q6⟩ := hsp
        have S7 : Inv X ((a, oe4) :: pins) σ6 H6 s6 := ⟨ok, S6.os, S6.bare, S6.base, S6.loc, S6.cell, S6.free, S6.freeC, fun p hp => S6.pin p (List.mem_append_left _ (by
          rcases List.mem_append.mp hp with z | z
          · exact List.mem_cons_of_mem _ (List.mem_append_left _ z)
          · rcases List.mem_cons.mp z with z | z
            · rw [z]; exact List.mem_cons_self
            · exact List.mem_cons_of_mem _ (List.mem_append_right _ z))), S6.hok, S6.len⟩
        refine gone_ok (Q := fun _ s7 => SP X pins D .next s7) S7 hN hi hln fun s7 J7 => ?_
        obtain ⟨g1, g2, g3, g4, g5⟩ := J7.pin (a, oe4) (List.mem_append_right _ List.mem_cons_self)
        have J8 : Inv X pins (σ6.set i none) H6 s7 := J7.pins_of fun p hp => J7.pin p (List.mem_append_right _ (List.mem_cons_of_mem _ hp))
        refine ⟨_, _, Inv.adopt J8 hnew g2 g3 (fun y c e => (hcl y c e).elim) hpn (exc_ok g1 hz4 ⟨_, hd4⟩), q6⟩
      | brk => obtain ⟨_, _, _, q6⟩ := hsp; exact q6.elim
      | cont => obtain ⟨_, _, _, q6⟩ := hsp; exact q6.elim
      | ret u => obtain ⟨_, _, _, _, _, q6⟩ := hsp; exact q6.elim
    | false =>
      show wpAny _ X.A (handleBy (.ref a) X.env []) _ _ _
      refine wpAny_handleBy_nil ?_
      obtain ⟨k1, k2, k3, oe, vs, T, oT, ts', he, hz, hd, h1, hr⟩ := id fl3
      unfold PySem.passOn
      refine wpAny_bind (wpAny_field he hd h1 ?_)
      rw [if_neg (show ¬ ((Value.ref T == Value.none) = true) from by simp)]
      have fin : wpAny (model X.prog X.w) X.A (setFlight (.ref a) X.env.frame) (fun _ s4 => wpAny (model X.prog X.w) X.A (throw (.ref a) : Sem Flow) (SP X pins D) X.xe s4) X.xe { s' with heap := h3 } := by
        rw [hf]
        refine HandSPX.setFlight_upZ fl3 fun h4 hh4 up4 => wpAny_throw (tk _ _ ?_)
        exact ⟨a, B, sI, pins, σ', H', cls, d, rfl, J, nb, (up.trans up3).trans up4, .inr (.inr (by rw [hs]; exact hh4)), na, os, ag, hno rfl⟩
      first
        | exact wpAny_bind (wpAny_pure (wpAny_bind fin))
        | exact wpAny_bind fin
  · cases f with
    | next =>
      obtain ⟨σ', H', J', q⟩ := hsp
      exact wpAny_execs_nil ⟨σ', H', J'.ofTry ok, q⟩
    | brk =>
      obtain ⟨σ', H', J', q⟩ := hsp
      exact ⟨σ', H', J'.ofTry ok, q⟩
    | cont =>
      obtain ⟨σ', H', J', q⟩ := hsp
      exact ⟨σ', H', J'.ofTry ok, q⟩
    | ret u =>
      obtain ⟨v, σ', H', J', r, q⟩ := hsp
      exact ⟨v, σ', H', J'.ofTry ok, r, q⟩
end
/-! ### isinstance of a kept exception -/
/-- isinstance(e, c) -/
def rIsX (K : PySem.W.Frag) : List V → Hp → VK → Prop := fun xs H Q => ∃ (a D : Addr) (c : V) (u : Value) (b : Bool), xs = [.ref a, c] ∧ H a = some (excH a D) ∧ ExcC K D ∧ ClsV c u ∧ PySem.W.kitOne K (.ref D) u = some b ∧ Q (.bl b) H
/-- isinstance(e, (c1, c2, ..)) -/
def rIsXT (K : PySem.W.Frag) : List V → Hp → VK → Prop := fun xs H Q => ∃ (a D tp : Addr) (cs : List V) (us : List Value) (b : Bool), xs = [.ref a, .ref tp] ∧ H a = some (excH a D) ∧ ExcC K D ∧ H tp = some (.tup cs) ∧ Paired ClsV cs us ∧ PySem.W.kitAny K (.ref D) us = some b ∧ Q (.bl b) H
section
variable {X : Cx}
theorem call_isX : CallR X (.builtin "isinstance") (rIsX X.K) := by
  intro pins s σ H xs us Q I r h
  obtain ⟨a, D, c, u, b, rfl, ha, C, k, e, q⟩ := h
  obtain ⟨u1, u2, rfl, r1, r2⟩ := vals2 r
  have e2 := k.eq r2
  subst e2
  cases (show u1 = Value.ref a from r1)
  obtain ⟨⟨oe, J⟩, _⟩ := (show ObjOk X.prog X.w H s.heap a (excH a D) from I.hok a _ ha)
  exact PySem.W.kia_one (PySem.W.handS_kitx_exc C.hg C.hk C.hs C.hd C.ha C.hn C.ht C.hm) I.kIn J e (fun z => nomatch z) fun tk => ⟨.bl b, H, I.tok tk, rfl, q⟩
theorem call_isXT : CallR X (.builtin "isinstance") (rIsXT X.K) := by
  intro pins s σ H xs us Q I r h
  obtain ⟨a, D, tp, cs, ws, b, rfl, ha, C, hT, k, e, q⟩ := h
  obtain ⟨u1, u2, rfl, r1, r2⟩ := vals2 r
  cases (show u2 = Value.ref tp from r2)
  cases (show u1 = Value.ref a from r1)
  obtain ⟨⟨oe, J⟩, _⟩ := (show ObjOk X.prog X.w H s.heap a (excH a D) from I.hok a _ ha)
  obtain ⟨_, its, rv, o, h1, h2, n, h3⟩ := (show ObjOk X.prog X.w H s.heap tp (.tup cs) from I.hok tp _ hT)
  have e3 := ClsV.all k rv
  subst e3
  obtain ⟨oc, od, dt, sl⟩ := o
  simp only at h2 h3
  subst h2 h3
  exact PySem.W.kia_tup (PySem.W.handS_kitx_exc C.hg C.hk C.hs C.hd C.ha C.hn C.ht C.hm) I.kIn J h1 e (fun z => nomatch z) fun tk => ⟨.bl b, H, I.tok tk, rfl, q⟩
end
/-! ### defs that may raise -/
structure FnX (P : Program) (w : World) (K : PySem.W.Frag) (mg : Str → Option Value) (base : Heap) (x : Str) (k : Nat) (ps : List Str) (sp : Sp) : Prop where
  ex : ∃ (f : Addr) (fd : FuncData), FnOk P w K mg base (L2.CX P w) k f fd ps sp ∧ mg x = some (.ref f) ∧ PySem.W.keepIn K (.ref f) = true ∧ Binds K fd ps []
section
variable {X : Cx} {k : Nat} {ps : List Str} {sp : Sp} {x : Str} {p pos : Pos} {e : Expr} {es : List Expr} {t : TA} {W : WX}
/-- in a try, or in a def that lets it out -/
theorem pe_fnX (F : FnX X.prog X.w X.K X.mg X.base x k ps sp) (hr : Room k X.A) (tk : Takes X W) (ha : PA X (e :: es) t) (hg : Gl X x := by rfl)
    (hdb : (x == ("__debug__" : Str)) = false := by decide) (he : starEach (e :: es) X.env = (false, eval e X.env) :: starEach es X.env := by rfl) (hpl : (backTo pos (starEach es X.env)).any (·.1) = false := by rfl) :
    PE X (.Call (.Name x p) (e :: es) [] pos) (tCallS sp (WE W) t) := by
  obtain ⟨f, fd, F1, g, kp, b⟩ := F.ex
  exact pe_callS F1 hr hg g kp b (passAt tk) ha hdb he hpl
/-- where nothing is raised -/
theorem pe_fnX0 (F : FnX X.prog X.w X.K X.mg X.base x k ps sp) (hr : Room k X.A) (ha : PA X (e :: es) t) (hg : Gl X x := by rfl)
    (hdb : (x == ("__debug__" : Str)) = false := by decide) (he : starEach (e :: es) X.env = (false, eval e X.env) :: starEach es X.env := by rfl) (hpl : (backTo pos (starEach es X.env)).any (·.1) = false := by rfl) :
    PE X (.Call (.Name x p) (e :: es) [] pos) (tCall sp [] E0 t) := by
  obtain ⟨f, fd, F1, g, kp, b⟩ := F.ex
  exact pe_call F1 hr hg g kp b .nil (fun _ _ _ _ _ _ _ ⟨_, _, _, _, _, _, _, _, _, _, _, _, z⟩ => z.elim) ha hdb he hpl
/-- raise C('..') -/
def tRaise (C : Addr) (W : WX) : TS := fun _ σ H => W (.ref C) none σ H
structure ExM (K : PySem.W.Frag) (C : Addr) : Prop where
  q : PySem.W.excIn K C He.veBase "ValueError.__new__" = true
  kp : PySem.W.keepIn K (.ref C) = true
  sb : PySem.W.subIn K (.ref C) (.type "BaseException") = some true
  ty : PySem.W.typeIn K (.ref C) = some (.type "type")
theorem ps_rai {C : Addr} {m : Str} {j : Nat} {p p2 pos pos' : Pos} (M : ExM X.K C) (g : X.mg x = some (.ref C)) (hc : X.calm = true) (tk : Takes X W) (hg : Gl X x := by rfl) (hdb : (x == ("__debug__" : Str)) = false := by decide) :
    PS X (.Raise (some (.Call (.Name x p) [.Constant (.str m) j p2] [] pos)) none pos') (tRaise C W) :=
  ps_raise hc tk (pmk_own PySem.F.excBase_ValueError M.q g M.kp (raises_own M.sb M.ty) hg hdb)
end
end Px
set_option Elab.async false
set_option linter.all false
set_option maxRecDepth 100000
namespace Px
open PySem L2
/-! ### the program's own exceptions -/
def five : List Str := ["NoPrimes", "NoPlace", "NoNumber", "NoText", "NoCommand"]
def excB (K : PySem.W.Frag) (D : Addr) : Bool :=
  He.eqO (PySem.W.findIn K (.ref D) "__getattribute__") (some (some (.builtin "BaseException.__getattribute__"))) && (He.eqO (PySem.W.findIn K (.ref D) "__getattr__") (some none) && (decide (PySem.W.subIn K (.ref D) (.type "BaseException") = some true) && (PySem.W.hasDictIn K D &&
  (He.eqO (PySem.W.findIn K (.ref D) "__class__") (some (some (.builtin "object.__class__"))) && (He.eqO (PySem.W.specialIn K (.builtin "object.__class__") "__get__") (some (some (.builtin "getset_descriptor.__get__"))) && (decide (PySem.W.takesIn K (.builtin "object.__class__") = some true) && decide (PySem.W.mroIn K D (.type "object") = some true)))))))
theorem excB_ok {K : PySem.W.Frag} {D : Addr} (h : excB K D = true) : ExcC K D := by
  unfold excB at h
  obtain ⟨h1, h⟩ := He.ba h
  obtain ⟨h2, h⟩ := He.ba h
  obtain ⟨h3, h⟩ := He.ba h
  obtain ⟨h4, h⟩ := He.ba h
  obtain ⟨h5, h⟩ := He.ba h
  obtain ⟨h6, h⟩ := He.ba h
  obtain ⟨h7, h8⟩ := He.ba h
  exact ⟨He.eqO_ok h1, He.eqO_ok h2, of_decide_eq_true h3, h4, He.eqO_ok h5, He.eqO_ok h6, of_decide_eq_true h7, of_decide_eq_true h8⟩
def oneB (K : PySem.W.Frag) (x : Str) : Bool :=
  (He.Fa.exc x).ok K && (excB K (He.ga K x) && (decide (PySem.W.exmOne K (.ref (He.ga K x)) (.ref (He.ga K "PartError")) = some true) && (decide (PySem.W.kitOne K (.ref (He.ga K x)) (.type "ValueError") = some true) && five.all fun y => decide (PySem.W.kitOne K (.ref (He.ga K x)) (.ref (He.ga K y)) = some (decide (x = y))))))
def errB (K : PySem.W.Frag) : Bool := five.all fun x => oneB K x
structure ErrAt (K : PySem.W.Frag) (x : Str) : Prop where
  em : ExM K (He.ga K x)
  ec : ExcC K (He.ga K x)
  part : PySem.W.exmOne K (.ref (He.ga K x)) (.ref (He.ga K "PartError")) = some true
  val : PySem.W.kitOne K (.ref (He.ga K x)) (.type "ValueError") = some true
  kit : ∀ y ∈ five, PySem.W.kitOne K (.ref (He.ga K x)) (.ref (He.ga K y)) = some (decide (x = y))
def Errs (K : PySem.W.Frag) : Prop := ∀ x ∈ five, ErrAt K x
theorem errB_ok {K : PySem.W.Frag} (h : errB K = true) : Errs K := fun x hx => by
  have h := List.all_eq_true.mp h x hx
  obtain ⟨h1, h⟩ := He.ba h
  obtain ⟨h2, h⟩ := He.ba h
  obtain ⟨h3, h⟩ := He.ba h
  obtain ⟨h4, h5⟩ := He.ba h
  obtain ⟨a, b, c, d⟩ := He.exc_ok h1
  exact ⟨⟨a, b, c, d⟩, excB_ok h2, of_decide_eq_true h3, of_decide_eq_true h4, fun y hy => of_decide_eq_true (List.all_eq_true.mp h5 y hy)⟩
/-! ### what the top has left, with these -/
abbrev AlX : Type := AlL × Bool
def obsX (n : Nat) (fa : List He.Fa) (fn : List He.DefD) (ls : List (Str × List He.Dv)) (g : Addr → Option Obj) : AlX :=
  (obsL n fa fn ls g, errB (He.frG g (He.asD g n)))
def hookX (n : Nat) (fa : List He.Fa) (fn : List He.DefD) (ls : List (Str × List He.Dv)) : PySem.W.Hook where
  α := AlX
  obs := fun s => obsX n fa fn ls s.heap.get?
  val := fun _ => ((He.valD fn, true), true)
  says := fun _ h => ∃ K : PySem.W.Frag, K.In h ∧ He.SaysD fa fn K ∧ (ls.all fun q => He.lstB K q.1 q.2) = true ∧ errB K = true
  of := fun _ _ e => ⟨_, He.frG_in, congrArg (fun z : AlX => z.1.1) e, congrArg (fun z : AlX => z.1.2) e, congrArg (fun z : AlX => z.2) e⟩
  keeps := fun _ _ _ ⟨K, hK, c1, c2, c3⟩ k => ⟨K, PySem.W.Frag.In.keeps hK k, c1, c2, c3⟩
theorem obsX_eq {n : Nat} {fa : List He.Fa} {fn : List He.DefD} {ls : List (Str × List He.Dv)} {g : Addr → Option Obj} {s : Shared} (h : ∀ a, g a = s.heap.get? a) : obsX n fa fn ls g = (hookX n fa fn ls).obs s := by
  have e : g = s.heap.get? := funext h
  subst e; rfl
/-! ### the try of a law -/
def tTryK (K : PySem.W.Frag) (c : Value) (i : Nat) (tb : WX → TS) (ts : Addr → TS) : TS := fun D σ H => tb (wKeep K c i ts (fun _ _ _ _ => False) D) D σ H
theorem ps_tryk {X : Cx} {x n : Str} {c : Value} {i : Nat} {body suite : List Stmt} {b₀ : Stmt} {np pos pos' : Pos} {tb : WX → TS} {ts : Addr → TS} (hs : X.stack = X.env :: X.outer) (hf : X.env.frame = some X.env.locals) (hex : X.ex = []) (hcl : ∀ x c, X.env.cells.lookup x = some c → False) (hN : X.N.Nodup) (hi : X.N[i]? = some n) (hln : X.env.kindOf n = some .local) (hc : Names X x c)
    (hb : ∀ (W : WX) (pn : List (Addr × Obj)) (xe : Value → Shared → Prop), Takes (X.tr pn xe) W → PassesOwn (model X.prog X.w) X.A X.env xe → PSs (X.tr pn xe) body (tb W))
    (hsu : ∀ (a : Addr) (pn : List (Addr × Obj)), PSs (X.suite a pn) (b₀ :: suite) (ts a)) :
    PS X (.Try body [.ExceptHandler (some (.Name x np)) (some n) (b₀ :: suite) pos'] [] [] pos) (tTryK X.K c i tb ts) :=
  ps_try_keep hs hf hex hcl hN hi hln hc (fun u s' ⟨_, _, _, _, _, _, _, _, _, _, _, _, _, _, _, _, z⟩ => z.elim) hb hsu
/-- the body lets one of the five out, and it is caught and kept -/
theorem w_tryk {K : PySem.W.Frag} {i : Nat} {tb : WX → TS} {ts : Addr → TS} {D : Ends} {σ : L2.St} {H : Hp} (h : tb (wKeep K (.ref (He.ga K "PartError")) i ts (fun _ _ _ _ => False) D) D σ H) : tTryK K (.ref (He.ga K "PartError")) i tb ts D σ H := h
theorem w_caught {K : PySem.W.Frag} (hX : Errs K) {x : Str} (hx : x ∈ five) {i : Nat} {ts : Addr → TS} {Wout : WX} {D : Ends} {σ : L2.St} {H : Hp} (k : ∀ a, H a = none → ts a { nx := fun σ' H' => D.nx (σ'.set i none) (upd H' a (excH a (He.ga K x))), rt := fun _ _ => False, bk := fun _ _ => False, ct := fun _ _ => False } (σ.set i (some (.ref a))) H) :
    wKeep K (.ref (He.ga K "PartError")) i ts Wout D (.ref (He.ga K x)) none σ H := ⟨true, (hX x hx).part, fun _ => ⟨_, rfl, rfl, k⟩, fun z => nomatch z⟩
end Px
set_option linter.all false
set_option maxHeartbeats 1000000
namespace MA
/-! ### numbers made of some primes -/
inductive Mk (row : List Nat) : Nat → Prop
  | one : Mk row 1
  | mul {p n : Nat} : p ∈ row → Mk row n → Mk row (p * n)
theorem mk_mono {r r' : List Nat} (h : ∀ p ∈ r, p ∈ r') {n : Nat} (m : Mk r n) : Mk r' n := by
  induction m with
  | one => exact .one
  | mul hp _ ih => exact .mul (h _ hp) ih
theorem mk_congr {r r' : List Nat} (h : ∀ p, p ∈ r ↔ p ∈ r') {n : Nat} : Mk r n ↔ Mk r' n := ⟨mk_mono fun p => (h p).mp, mk_mono fun p => (h p).mpr⟩
theorem mk_times {r : List Nat} {a b : Nat} (h : Mk r a) (g : Mk r b) : Mk r (a * b) := by
  induction h with
  | one => rw [Nat.one_mul]; exact g
  | mul hp _ ih => rw [Nat.mul_assoc]; exact .mul hp ih
theorem mk_pow {r : List Nat} {p : Nat} (h : p ∈ r) (k : Nat) : Mk r (p ^ k) := by
  induction k with
  | zero => exact .one
  | succ k ih => rw [Nat.pow_succ, Nat.mul_comm]; exact .mul h ih
theorem mk_self {r : List Nat} {p : Nat} (h : p ∈ r) : Mk r p := by
  have := mk_pow h 1
  rwa [Nat.pow_one] at this
theorem mk_nil {n : Nat} (h : Mk [] n) : n = 1 := by
  cases h with
  | one => rfl
  | mul hp _ => cases hp
theorem mk_cons {p : Nat} {r : List Nat} {n : Nat} : Mk (p :: r) n ↔ ∃ k m, n = m * p ^ k ∧ Mk r m := by
  constructor
  · intro h
    induction h with
    | one => exact ⟨0, 1, rfl, .one⟩
    | mul hq _ ih =>
      obtain ⟨k, m, rfl, hm⟩ := ih
      rcases List.mem_cons.mp hq with rfl | hq
      · exact ⟨k + 1, m, by rw [Nat.pow_succ]; simp only [Nat.mul_assoc, Nat.mul_comm, Nat.mul_left_comm], hm⟩
      · exact ⟨k, _ * m, by rw [Nat.mul_assoc], .mul hq hm⟩
  · rintro ⟨k, m, rfl, hm⟩
    exact mk_times (mk_mono (fun _ h => List.mem_cons_of_mem _ h) hm) (mk_pow List.mem_cons_self k)
structure Good (row : List Nat) : Prop where
  ge : ∀ p ∈ row, 2 ≤ p
  cop : row.Pairwise Nat.Coprime
theorem Good.tail {p : Nat} {r : List Nat} (g : Good (p :: r)) : Good r := ⟨fun q h => g.ge q (List.mem_cons_of_mem _ h), (List.pairwise_cons.mp g.cop).2⟩
theorem Good.head {p : Nat} {r : List Nat} (g : Good (p :: r)) : 2 ≤ p := g.ge p List.mem_cons_self
theorem Good.off {p : Nat} {r : List Nat} (g : Good (p :: r)) : ∀ q ∈ r, Nat.Coprime p q := (List.pairwise_cons.mp g.cop).1
theorem good_nil : Good [] := ⟨fun _ h => (List.not_mem_nil h).elim, List.Pairwise.nil⟩
theorem Good.sub {r r' : List Nat} (g : Good r') (h : r.Sublist r') : Good r := ⟨fun p hp => g.ge p (h.subset hp), g.cop.sublist h⟩
theorem Good.perm {r r' : List Nat} (g : Good r') (h : r.Perm r') : Good r := ⟨fun p hp => g.ge p (h.mem_iff.mp hp), (h.pairwise_iff (fun z => Nat.Coprime.symm z)).mpr g.cop⟩
theorem mk_pos {r : List Nat} (g : ∀ p ∈ r, 2 ≤ p) {n : Nat} (h : Mk r n) : 0 < n := by
  induction h with
  | one => exact Nat.one_pos
  | mul hp _ ih => exact Nat.mul_pos (by have := g _ hp; omega) ih
theorem cop_mk {p : Nat} {r : List Nat} (h : ∀ q ∈ r, Nat.Coprime p q) {m : Nat} (hm : Mk r m) : Nat.Coprime p m := by
  induction hm with
  | one => exact Nat.coprime_one_right p
  | mul hq _ ih => exact Nat.Coprime.mul_right (h _ hq) ih
theorem cop_ndvd {p m : Nat} (hp : 2 ≤ p) (h : Nat.Coprime p m) : ¬ p ∣ m := fun z => by
  have : Nat.gcd p m = p := Nat.gcd_eq_left z
  have h1 : Nat.gcd p m = 1 := h
  omega
theorem Good.ndvd {p : Nat} {r : List Nat} (g : Good (p :: r)) {m : Nat} (hm : Mk r m) : ¬ p ∣ m := cop_ndvd g.head (cop_mk g.off hm)
theorem split_eq {p : Nat} (hp : 2 ≤ p) : ∀ {k k' m m' : Nat}, ¬ p ∣ m → ¬ p ∣ m' → m * p ^ k = m' * p ^ k' → k = k' ∧ m = m'
  | 0, 0, m, m', _, _, e => ⟨rfl, by simpa using e⟩
  | 0, k + 1, m, m', h, _, e => by
    rw [Nat.pow_zero, Nat.mul_one, Nat.pow_succ, ← Nat.mul_assoc] at e
    exact absurd ⟨m' * p ^ k, by rw [e, Nat.mul_comm]⟩ h
  | k + 1, 0, m, m', _, h, e => by
    rw [Nat.pow_zero, Nat.mul_one, Nat.pow_succ, ← Nat.mul_assoc] at e
    exact absurd ⟨m * p ^ k, by rw [← e, Nat.mul_comm]⟩ h
  | k + 1, k' + 1, m, m', h, h', e => by
    rw [Nat.pow_succ, Nat.pow_succ, ← Nat.mul_assoc, ← Nat.mul_assoc] at e
    have := split_eq hp h h' (Nat.eq_of_mul_eq_mul_right (by omega) e)
    exact ⟨by omega, this.2⟩
/-- a divisor that is one of the primes is made, too -/
theorem Good.div {r : List Nat} : ∀ (g : Good r) {n p : Nat}, p ∈ r → Mk r n → p ∣ n → Mk r (n / p) := by
  intro g n p hp hn hd
  have h1 : r.Perm (p :: r.erase p) := List.perm_cons_erase hp
  have g1 : Good (p :: r.erase p) := g.perm h1.symm
  have hn1 : Mk (p :: r.erase p) n := (mk_congr fun q => h1.mem_iff).mp hn
  obtain ⟨k, m, rfl, hm⟩ := mk_cons.mp hn1
  cases k with
  | zero => rw [Nat.pow_zero, Nat.mul_one] at hd; exact absurd hd (g1.ndvd hm)
  | succ k =>
    rw [Nat.pow_succ, ← Nat.mul_assoc, Nat.mul_div_cancel _ (by have := g1.head; omega)]
    exact (mk_congr fun q => h1.mem_iff).mpr (mk_cons.mpr ⟨k, m, rfl, hm⟩)
theorem Good.div_iff {r : List Nat} (g : Good r) {n p : Nat} (hp : p ∈ r) : Mk r (n * p) ↔ Mk r n := by
  have h2 := g.ge p hp
  constructor
  · intro h
    have := g.div hp h ⟨n, Nat.mul_comm _ _⟩
    rwa [Nat.mul_div_cancel _ (by omega)] at this
  · intro h; rw [Nat.mul_comm]; exact .mul hp h
/-- each but 1 is a prime times one of them -/
theorem mk_step {r : List Nat} {n : Nat} (h : Mk r n) (h1 : n ≠ 1) : ∃ p ∈ r, ∃ m, n = p * m ∧ Mk r m := by
  cases h with
  | one => exact absurd rfl h1
  | mul hp hm => exact ⟨_, hp, _, rfl, hm⟩
/-! ### taking primes out -/
def strip (p n : Nat) : Nat := if h : 2 ≤ p ∧ 0 < n ∧ n % p = 0 then strip p (n / p) else n
termination_by n
decreasing_by exact Nat.div_lt_self h.2.1 (by omega)
def stripAll : List Nat → Nat → Nat
  | [], n => n
  | p :: r, n => stripAll r (strip p n)
theorem strip_yes {p n : Nat} (h1 : 2 ≤ p) (h2 : 0 < n) (h3 : n % p = 0) : strip p n = strip p (n / p) := by rw [strip, dif_pos ⟨h1, h2, h3⟩]
theorem strip_no {p n : Nat} (h3 : n % p ≠ 0) : strip p n = n := by rw [strip, dif_neg (fun h => h3 h.2.2)]
theorem strip_spec {p : Nat} (hp : 2 ≤ p) : ∀ n, 0 < n → ∃ k, n = strip p n * p ^ k ∧ ¬ p ∣ strip p n ∧ 0 < strip p n := by
  intro n
  induction n using Nat.strongRecOn with
  | ind n ih =>
    intro hn
    by_cases h : n % p = 0
    · obtain ⟨k, e, h1, h2⟩ := ih (n / p) (Nat.div_lt_self hn (by omega)) (Nat.div_pos (Nat.le_of_dvd hn (Nat.dvd_of_mod_eq_zero h)) (by omega))
      rw [strip_yes hp hn h]
      refine ⟨k + 1, ?_, h1, h2⟩
      rw [Nat.pow_succ, ← Nat.mul_assoc, ← e, Nat.div_mul_cancel (Nat.dvd_of_mod_eq_zero h)]
    · rw [strip_no h]
      exact ⟨0, by simp, fun z => h (Nat.mod_eq_zero_of_dvd z), hn⟩
theorem stripAll_iff : ∀ {r : List Nat} (g : Good r) {n : Nat}, 0 < n → (stripAll r n = 1 ↔ Mk r n)
  | [], _, n, _ => ⟨fun h => by have h : n = 1 := h
                                rw [h]; exact .one, fun h => mk_nil h⟩
  | p :: r, g, n, hn => by
    obtain ⟨k, e, h1, h2⟩ := strip_spec g.head n hn
    show stripAll r (strip p n) = 1 ↔ _
    rw [stripAll_iff g.tail h2, mk_cons]
    constructor
    · intro h; exact ⟨k, _, e, h⟩
    · rintro ⟨k', m, e', hm⟩
      have := (split_eq g.head h1 (g.ndvd hm) (e.symm.trans e')).2
      rw [this]; exact hm
theorem stripAll_pos {r : List Nat} (g : ∀ p ∈ r, 2 ≤ p) : ∀ {n : Nat}, 0 < n → 0 < stripAll r n := by
  induction r with
  | nil => intro n h; exact h
  | cons p r ih =>
    intro n h
    obtain ⟨_, _, _, h2⟩ := strip_spec (g p List.mem_cons_self) n h
    exact ih (fun q hq => g q (List.mem_cons_of_mem _ hq)) h2
/-! ### lists without repetition -/
theorem perm_of {l l' : List Nat} (h : l.Nodup) (h' : l'.Nodup) (e : ∀ n, n ∈ l ↔ n ∈ l') : l.Perm l' := by
  rw [List.perm_iff_count]
  intro a
  rw [h.count, h'.count]
  by_cases z : a ∈ l
  · rw [if_pos z, if_pos ((e a).mp z)]
  · rw [if_neg z, if_neg (fun y => z ((e a).mpr y))]
theorem len_le {l : List Nat} : ∀ {m : List Nat}, l.Nodup → (∀ n ∈ l, n ∈ m) → l.length ≤ m.length := by
  induction l with
  | nil => intro m _ _; simp
  | cons a l ih =>
    intro m nd hs
    have ha := hs a List.mem_cons_self
    have h1 : l.length ≤ (m.erase a).length := ih (List.nodup_cons.mp nd).2 fun n hn => by
      have hne : n ≠ a := fun z => (List.nodup_cons.mp nd).1 (z ▸ hn)
      exact (List.mem_erase_of_ne hne).mpr (hs n (List.mem_cons_of_mem _ hn))
    rw [List.length_erase_of_mem ha] at h1
    have : 0 < m.length := List.length_pos_of_mem ha
    simp only [List.length_cons]
    omega
theorem pair_nodup {l : List Nat} (h : l.Pairwise (· < ·)) : l.Nodup := h.imp fun z => Nat.ne_of_lt z
theorem eq_of_pair {l l' : List Nat} (h : l.Pairwise (· < ·)) (h' : l'.Pairwise (· < ·)) (e : ∀ n, n ∈ l ↔ n ∈ l') : l = l' :=
  (perm_of (pair_nodup h) (pair_nodup h') e).eq_of_pairwise (fun a b _ _ h1 h2 => by omega) (h.imp Nat.le_of_lt) (h'.imp Nat.le_of_lt)
/-! ### all of them to a bound -/
def IsAll (row : List Nat) (b : Nat) (l : List Nat) : Prop := l.Nodup ∧ ∀ n, n ∈ l ↔ Mk row n ∧ n ≤ b
theorem IsAll.perm {row l l' : List Nat} {b : Nat} (h : IsAll row b l) (h' : IsAll row b l') : l.Perm l' := perm_of h.1 h'.1 fun n => (h.2 n).trans (h'.2 n).symm
theorem IsAll.of_perm {row l l' : List Nat} {b : Nat} (h : IsAll row b l) (p : l'.Perm l) : IsAll row b l' := ⟨p.nodup_iff.mpr h.1, fun n => p.mem_iff.trans (h.2 n)⟩
theorem IsAll.congr {r r' l : List Nat} {b : Nat} (e : ∀ p, p ∈ r ↔ p ∈ r') (h : IsAll r b l) : IsAll r' b l := ⟨h.1, fun n => (h.2 n).trans (and_congr_left fun _ => mk_congr e)⟩
theorem all_zero {row : List Nat} (g : ∀ p ∈ row, 2 ≤ p) : IsAll row 0 [] := ⟨List.Pairwise.nil, fun n => ⟨fun h => (List.not_mem_nil h).elim, fun h => by have := mk_pos g h.1; have := h.2; omega⟩⟩
theorem all_nil {b : Nat} (h : 0 < b) : IsAll [] b [1] := ⟨by simp, fun n => ⟨fun z => by rw [List.mem_singleton.mp z]; exact ⟨.one, h⟩, fun z => by rw [mk_nil z.1]; exact List.mem_singleton.mpr rfl⟩⟩
open Classical in
noncomputable def allL (row : List Nat) (b : Nat) : List Nat := (List.range (b + 1)).filter fun n => @decide (Mk row n) (Classical.propDecidable _)
noncomputable def cnt (row : List Nat) (b : Nat) : Nat := (allL row b).length
open Classical in
theorem allL_mem {row : List Nat} {b n : Nat} : n ∈ allL row b ↔ Mk row n ∧ n ≤ b := by
  unfold allL
  rw [List.mem_filter, List.mem_range, decide_eq_true_eq]
  constructor
  · rintro ⟨h1, h2⟩; exact ⟨h2, by omega⟩
  · rintro ⟨h1, h2⟩; exact ⟨by omega, h1⟩
theorem allL_pair (row : List Nat) (b : Nat) : (allL row b).Pairwise (· < ·) := List.pairwise_lt_range.sublist List.filter_sublist
theorem allL_is (row : List Nat) (b : Nat) : IsAll row b (allL row b) := ⟨pair_nodup (allL_pair row b), fun _ => allL_mem⟩
theorem IsAll.len {row l : List Nat} {b : Nat} (h : IsAll row b l) : l.length = cnt row b := (h.perm (allL_is row b)).length_eq
theorem IsAll.eq {row l : List Nat} {b : Nat} (h : IsAll row b l) (p : l.Pairwise (· < ·)) : l = allL row b := eq_of_pair p (allL_pair row b) fun n => (h.2 n).trans allL_mem.symm
theorem cnt_le {row l : List Nat} {b : Nat} (nd : l.Nodup) (h : ∀ n ∈ l, Mk row n ∧ n ≤ b) : l.length ≤ cnt row b := len_le nd fun n hn => allL_mem.mpr (h n hn)
theorem cnt_congr {r r' : List Nat} {b : Nat} (e : ∀ p, p ∈ r ↔ p ∈ r') : cnt r b = cnt r' b := ((allL_is r b).congr e).len
theorem allL_congr {r r' : List Nat} {b : Nat} (e : ∀ p, p ∈ r ↔ p ∈ r') : allL r b = allL r' b := ((allL_is r b).congr e).eq (allL_pair _ _)
theorem cnt_zero {row : List Nat} (g : ∀ p ∈ row, 2 ≤ p) : cnt row 0 = 0 := ((all_zero g).len).symm
open Classical in
theorem allL_succ_yes {row : List Nat} {b : Nat} (h : Mk row (b + 1)) : allL row (b + 1) = allL row b ++ [b + 1] := by
  unfold allL
  rw [List.range_succ, List.filter_append]
  congr 1
  rw [List.filter_cons, if_pos (by simpa using h)]; rfl
open Classical in
theorem allL_succ_no {row : List Nat} {b : Nat} (h : ¬ Mk row (b + 1)) : allL row (b + 1) = allL row b := by
  unfold allL
  rw [List.range_succ, List.filter_append]
  rw [List.filter_cons, if_neg (by simpa using h)]; simp
theorem cnt_yes {row : List Nat} {b : Nat} (h : Mk row (b + 1)) : cnt row (b + 1) = cnt row b + 1 := by unfold cnt; rw [allL_succ_yes h]; simp
theorem cnt_no {row : List Nat} {b : Nat} (h : ¬ Mk row (b + 1)) : cnt row (b + 1) = cnt row b := by unfold cnt; rw [allL_succ_no h]
theorem cnt_mono {row : List Nat} {a b : Nat} (h : a ≤ b) : cnt row a ≤ cnt row b := len_le (allL_is row a).1 fun n hn => by
  have := allL_mem.mp hn
  exact allL_mem.mpr ⟨this.1, by omega⟩
theorem cnt_row {r r' : List Nat} {b : Nat} (h : ∀ p ∈ r, p ∈ r') : cnt r b ≤ cnt r' b := len_le (allL_is r b).1 fun n hn => by
  have := allL_mem.mp hn
  exact allL_mem.mpr ⟨mk_mono h this.1, this.2⟩
/-- none between: as many -/
theorem cnt_gap {row : List Nat} {a b : Nat} (h : a ≤ b) (g : ∀ n, a < n → n ≤ b → ¬ Mk row n) : cnt row b = cnt row a := by
  obtain ⟨d, rfl⟩ := Nat.exists_eq_add_of_le h
  clear h
  induction d with
  | zero => rfl
  | succ d ih =>
    rw [← Nat.add_assoc, cnt_no (g _ (by omega) (by omega))]
    exact ih fun n h1 h2 => g n h1 (by omega)
theorem allL_gap {row : List Nat} {a b : Nat} (h : a ≤ b) (g : ∀ n, a < n → n ≤ b → ¬ Mk row n) : allL row b = allL row a := by
  obtain ⟨d, rfl⟩ := Nat.exists_eq_add_of_le h
  clear h
  induction d with
  | zero => rfl
  | succ d ih =>
    rw [← Nat.add_assoc, allL_succ_no (g _ (by omega) (by omega))]
    exact ih fun n h1 h2 => g n h1 (by omega)
theorem cnt_pos {row : List Nat} {b : Nat} (h : 0 < b) : 0 < cnt row b := List.length_pos_of_mem (allL_mem.mpr ⟨.one, h⟩)
/-- strictly more behind one that is made -/
theorem cnt_lt {row : List Nat} {a b : Nat} (h : a < b) (hb : Mk row b) : cnt row a < cnt row b := by
  cases b with
  | zero => omega
  | succ b =>
    rw [cnt_yes hb]
    have := cnt_mono (row := row) (a := a) (b := b) (by omega)
    omega
/-- the list behind one prime more: it is what it was, and its own numbers times the prime -/
theorem grow {r L F : List Nat} {p b : Nat} (g : Good (p :: r)) (h0 : IsAll r b L) (nd : F.Nodup) (hM : ∀ y ∈ F, Mk (p :: r) y ∧ y ≤ b) (hL : ∀ y ∈ L, y ∈ F) (hF : ∀ x ∈ F, x * p ≤ b → x * p ∈ F) : IsAll (p :: r) b F := by
  refine ⟨nd, fun n => ⟨hM n, ?_⟩⟩
  rintro ⟨h, hb⟩
  obtain ⟨k, m, rfl, hm⟩ := mk_cons.mp h
  clear h
  induction k with
  | zero =>
    rw [Nat.pow_zero, Nat.mul_one] at hb ⊢
    exact hL _ ((h0.2 m).mpr ⟨hm, hb⟩)
  | succ k ih =>
    rw [Nat.pow_succ, ← Nat.mul_assoc] at hb ⊢
    have h1 : m * p ^ k ≤ m * p ^ k * p := Nat.le_mul_of_pos_right _ (by have := g.head; omega)
    exact hF _ (ih (by omega)) hb
/-! ### the powers from a number on -/
def pwl (p b x : Nat) : List Nat := if h : 2 ≤ p ∧ 0 < x ∧ x ≤ b then x :: pwl p b (x * p) else []
termination_by b + 1 - x
decreasing_by
  have : x * 2 ≤ x * p := Nat.mul_le_mul_left x h.1
  omega
theorem pwl_yes {p b x : Nat} (h1 : 2 ≤ p) (h2 : 0 < x) (h3 : x ≤ b) : pwl p b x = x :: pwl p b (x * p) := by rw [pwl, dif_pos ⟨h1, h2, h3⟩]
theorem pwl_no {p b x : Nat} (h3 : b < x) : pwl p b x = [] := by rw [pwl, dif_neg (by omega)]
theorem pwl_mem {p b x : Nat} (hp : 2 ≤ p) (hx : 0 < x) : ∀ {y}, y ∈ pwl p b x ↔ ∃ k, y = x * p ^ k ∧ y ≤ b := by
  induction x using pwl.induct p b with
  | case1 x h ih =>
    intro y
    rw [pwl_yes h.1 h.2.1 h.2.2, List.mem_cons, ih (Nat.mul_pos hx (by omega))]
    constructor
    · rintro (rfl | ⟨k, rfl, hk⟩)
      · exact ⟨0, by simp, h.2.2⟩
      · exact ⟨k + 1, by rw [Nat.pow_succ]; simp only [Nat.mul_assoc, Nat.mul_comm, Nat.mul_left_comm], hk⟩
    · rintro ⟨k, rfl, hk⟩
      cases k with
      | zero => exact .inl (by simp)
      | succ k => exact .inr ⟨k, by rw [Nat.pow_succ]; simp only [Nat.mul_assoc, Nat.mul_comm, Nat.mul_left_comm], hk⟩
  | case2 x h =>
    intro y
    rw [pwl, dif_neg h]
    constructor
    · intro z; cases z
    · rintro ⟨k, rfl, hk⟩
      have : x * 1 ≤ x * p ^ k := Nat.mul_le_mul_left x (Nat.pow_pos (by omega))
      omega
theorem pwl_ge {p b x : Nat} : ∀ {y}, y ∈ pwl p b x → x ≤ y := by
  induction x using pwl.induct p b with
  | case1 x h ih =>
    intro y hy
    rw [pwl_yes h.1 h.2.1 h.2.2, List.mem_cons] at hy
    rcases hy with rfl | hy
    · exact Nat.le_refl _
    · have := ih hy
      have h2 : x * 2 ≤ x * p := Nat.mul_le_mul_left x h.1
      omega
  | case2 x h => intro y hy; rw [pwl, dif_neg h] at hy; cases hy
theorem pwl_pair {p b x : Nat} : (pwl p b x).Pairwise (· < ·) := by
  induction x using pwl.induct p b with
  | case1 x h ih =>
    rw [pwl_yes h.1 h.2.1 h.2.2]
    refine List.pairwise_cons.mpr ⟨fun y hy => ?_, ih⟩
    have h1 := pwl_ge hy
    have h2 : x * 2 ≤ x * p := Nat.mul_le_mul_left x h.1
    omega
  | case2 x h => rw [pwl, dif_neg h]; exact .nil
theorem pwl_len {p b : Nat} (hp : 2 ≤ p) : ∀ {k x : Nat}, 0 < x → b < x * p ^ k → (pwl p b x).length ≤ k := by
  intro k
  induction k with
  | zero => intro x _ h; rw [Nat.pow_zero, Nat.mul_one] at h; rw [pwl_no h]; simp
  | succ k ih =>
    intro x hx h
    by_cases hb : x ≤ b
    · rw [pwl_yes hp hx hb, List.length_cons]
      have := ih (x := x * p) (Nat.mul_pos hx (by omega)) (by rw [Nat.pow_succ] at h; rw [Nat.mul_assoc, Nat.mul_comm p]; exact h)
      omega
    · rw [pwl_no (by omega)]; simp
theorem nodup_flat {f : Nat → List Nat} : ∀ {L : List Nat}, L.Nodup → (∀ x ∈ L, (f x).Nodup) → (∀ x ∈ L, ∀ y ∈ L, x ≠ y → ∀ z ∈ f x, z ∉ f y) → (L.flatMap f).Nodup
  | [], _, _, _ => by simp
  | a :: L, nd, h1, h2 => by
    rw [List.flatMap_cons, List.nodup_append]
    have nd' := List.nodup_cons.mp nd
    refine ⟨h1 a List.mem_cons_self, nodup_flat nd'.2 (fun x hx => h1 x (List.mem_cons_of_mem _ hx)) (fun x hx y hy => h2 x (List.mem_cons_of_mem _ hx) y (List.mem_cons_of_mem _ hy)), fun z hz w hw e => ?_⟩
    subst e
    obtain ⟨y, hy, hz'⟩ := List.mem_flatMap.mp hw
    exact h2 a List.mem_cons_self y (List.mem_cons_of_mem _ hy) (fun e => nd'.1 (e ▸ hy)) z hz hz'
/-- one prime more, each with all its powers -/
theorem IsAll.flat {r L : List Nat} {p b : Nat} (g : Good (p :: r)) (h : IsAll r b L) : IsAll (p :: r) b (L.flatMap (pwl p b)) := by
  have hp := g.head
  have pos : ∀ x ∈ L, 0 < x := fun x hx => mk_pos g.tail.ge ((h.2 x).mp hx).1
  refine ⟨nodup_flat h.1 (fun x _ => pair_nodup pwl_pair) (fun x hx y hy ne z hz hz' => ?_), fun n => ?_⟩
  · obtain ⟨k, e1, _⟩ := (pwl_mem hp (pos x hx)).mp hz
    obtain ⟨k', e2, _⟩ := (pwl_mem hp (pos y hy)).mp hz'
    exact ne (split_eq hp (g.ndvd ((h.2 x).mp hx).1) (g.ndvd ((h.2 y).mp hy).1) (e1.symm.trans e2)).2
  · rw [List.mem_flatMap, mk_cons]
    constructor
    · rintro ⟨x, hx, hn⟩
      obtain ⟨k, e, hb⟩ := (pwl_mem hp (pos x hx)).mp hn
      exact ⟨⟨k, x, e, ((h.2 x).mp hx).1⟩, hb⟩
    · rintro ⟨⟨k, m, e, hm⟩, hb⟩
      have hm0 := mk_pos g.tail.ge hm
      have : m * 1 ≤ m * p ^ k := Nat.mul_le_mul_left m (Nat.pow_pos (by omega))
      have hL : m ∈ L := (h.2 m).mpr ⟨hm, by omega⟩
      exact ⟨m, hL, (pwl_mem hp hm0).mpr ⟨k, e, hb⟩⟩
theorem cnt_sum {r L : List Nat} {p b : Nat} (g : Good (p :: r)) (h : IsAll r b L) : cnt (p :: r) b = (L.map fun x => (pwl p b x).length).sum := by
  rw [← (h.flat g).len, List.length_flatMap]
theorem sum_le {f : Nat → Nat} {k : Nat} : ∀ {L : List Nat}, (∀ x ∈ L, f x ≤ k) → (L.map f).sum ≤ L.length * k
  | [], _ => by simp
  | a :: L, h => by
    rw [List.map_cons, List.sum_cons, List.length_cons, Nat.add_mul]
    have := sum_le fun x hx => h x (List.mem_cons_of_mem _ hx)
    have := h a List.mem_cons_self
    omega
theorem cnt_box {r : List Nat} {p b k : Nat} (g : Good (p :: r)) (h : b < p ^ k) : cnt (p :: r) b ≤ cnt r b * k := by
  rw [cnt_sum g (allL_is r b)]
  refine sum_le fun x hx => ?_
  have h0 := mk_pos g.tail.ge (allL_mem.mp hx).1
  refine pwl_len g.head h0 ?_
  have : 1 * p ^ k ≤ x * p ^ k := Nat.mul_le_mul_right _ h0
  omega
theorem cnt_nil {b : Nat} : cnt [] b ≤ 1 := by
  cases b with
  | zero => rw [cnt_zero (fun _ h => (List.not_mem_nil h).elim)]; omega
  | succ b => rw [← (all_nil (b := b + 1) (by omega)).len]; simp
/-- by a prime: those without it, and as many as to what it leaves of the bound -/
theorem cnt_split {r : List Nat} {p b : Nat} (g : Good (p :: r)) : cnt (p :: r) b = cnt r b + cnt (p :: r) (b / p) := by
  have hp := g.head
  have h1 : IsAll (p :: r) b (allL r b ++ (allL (p :: r) (b / p)).map (· * p)) := by
    refine ⟨?_, fun n => ?_⟩
    · rw [List.nodup_append]
      refine ⟨(allL_is _ _).1, ?_, fun a ha c hc e => ?_⟩
      · exact List.pairwise_map.mpr ((allL_is (p :: r) (b / p)).1.imp fun ne e => ne (Nat.eq_of_mul_eq_mul_right (by omega) e))
      · subst e
        obtain ⟨x, _, e⟩ := List.mem_map.mp hc
        exact g.ndvd (allL_mem.mp ha).1 ⟨x, by rw [← e, Nat.mul_comm]⟩
    · rw [List.mem_append, List.mem_map, allL_mem]
      constructor
      · rintro (⟨h1, h2⟩ | ⟨x, hx, rfl⟩)
        · exact ⟨mk_mono (fun _ z => List.mem_cons_of_mem _ z) h1, h2⟩
        · obtain ⟨h1, h2⟩ := allL_mem.mp hx
          exact ⟨by show Mk _ (x * p); rw [Nat.mul_comm]; exact .mul List.mem_cons_self h1, (Nat.le_div_iff_mul_le (by omega)).mp h2⟩
      · rintro ⟨h1, h2⟩
        obtain ⟨k, m, rfl, hm⟩ := mk_cons.mp h1
        cases k with
        | zero => rw [Nat.pow_zero, Nat.mul_one] at h2 ⊢; exact .inl ⟨hm, h2⟩
        | succ k =>
          rw [Nat.pow_succ, ← Nat.mul_assoc] at h2 ⊢
          exact .inr ⟨m * p ^ k, allL_mem.mpr ⟨mk_cons.mpr ⟨k, m, rfl, hm⟩, (Nat.le_div_iff_mul_le (by omega)).mpr h2⟩, rfl⟩
  rw [← h1.len, List.length_append, List.length_map]
  rfl
/-! ### next and last -/
structure IsNext (row : List Nat) (n m : Nat) : Prop where
  made : Mk row m
  gt : n < m
  le : ∀ k, Mk row k → n < k → m ≤ k
structure IsLast (row : List Nat) (n m : Nat) : Prop where
  made : Mk row m
  lt : m < n
  ge : ∀ k, Mk row k → k < n → k ≤ m
theorem IsNext.uniq {row : List Nat} {n m m' : Nat} (h : IsNext row n m) (h' : IsNext row n m') : m = m' := Nat.le_antisymm (h.le m' h'.made h'.gt) (h'.le m h.made h.gt)
theorem IsLast.uniq {row : List Nat} {n m m' : Nat} (h : IsLast row n m) (h' : IsLast row n m') : m = m' := Nat.le_antisymm (h'.ge m h.made h.lt) (h.ge m' h'.made h'.lt)
theorem IsNext.of_last {row : List Nat} {n m : Nat} (h : IsLast row n m) (hn : Mk row n) : IsNext row m n := ⟨hn, h.lt, fun k hk hmk => by
  rcases Nat.lt_or_ge k n with z | z
  · have := h.ge k hk z; omega
  · exact z⟩
theorem IsLast.of_next {row : List Nat} {n m : Nat} (h : IsNext row n m) (hn : Mk row n) : IsLast row m n := ⟨hn, h.gt, fun k hk hkm => by
  rcases Nat.lt_or_ge n k with z | z
  · have := h.le k hk z; omega
  · exact z⟩
theorem cnt_next {row : List Nat} {n m : Nat} (h : IsNext row n m) : cnt row m = cnt row n + 1 := by
  obtain ⟨md, gt, le⟩ := h
  cases m with
  | zero => omega
  | succ m =>
    rw [cnt_yes md, cnt_gap (row := row) (a := n) (b := m) (by omega) fun k h1 h2 hk => by have := le k hk h1; omega]
theorem cnt_last {row : List Nat} {n m : Nat} (h : IsLast row n m) : cnt row (n - 1) = cnt row m :=
  cnt_gap (by have := h.lt; omega) fun k h1 h2 hk => by have := h.ge k hk (by have := h.lt; omega); omega
end MA
set_option linter.all false
set_option maxHeartbeats 1000000
namespace MA
/-! ### rows of primes below 100 -/
def PR : List Nat := [2, 3, 5, 7, 11, 13, 17, 19, 23, 29, 31, 37, 41, 43, 47, 53, 59, 61, 67, 71, 73, 79, 83, 89, 97]
structure Rw (row : List Nat) : Prop where
  mem : ∀ p ∈ row, p ∈ PR
  up : row.Pairwise (· < ·)
  le : row.length ≤ 6
theorem pr_cop : ∀ p ∈ PR, ∀ q ∈ PR, p < q → Nat.Coprime p q := by decide +kernel
theorem pr_ge : ∀ p ∈ PR, 2 ≤ p := by decide
theorem pr_le : ∀ p ∈ PR, p ≤ 97 := by decide
theorem Rw.good {row : List Nat} (w : Rw row) : Good row := ⟨fun p hp => pr_ge p (w.mem p hp), w.up.imp_of_mem fun {p q} hp hq h => pr_cop p (w.mem p hp) q (w.mem q hq) h⟩
theorem Rw.ge {row : List Nat} (w : Rw row) {p : Nat} (h : p ∈ row) : 2 ≤ p ∧ p ≤ 97 := ⟨pr_ge p (w.mem p h), pr_le p (w.mem p h)⟩
theorem Rw.sub {row r : List Nat} (w : Rw row) (s : r.Sublist row) : Rw r := ⟨fun p h => w.mem p (s.subset h), w.up.sublist s, Nat.le_trans s.length_le w.le⟩
theorem Rw.tail {p : Nat} {r : List Nat} (w : Rw (p :: r)) : Rw r := w.sub (List.sublist_cons_self _ _)
theorem Rw.nil : Rw [] := ⟨fun _ h => (List.not_mem_nil h).elim, List.Pairwise.nil, by simp⟩
def Fits (row : List Nat) (b : Nat) : Prop := (row.length ≤ 4 ∧ b < 2 ^ 70) ∨ (row.length ≤ 5 ∧ b < 2 ^ 37) ∨ b ≤ 2 * 10 ^ 9
theorem Fits.sub {row r : List Nat} {b : Nat} (f : Fits row b) (s : r.length ≤ row.length) : Fits r b := by unfold Fits at *; omega
theorem Fits.mono {row : List Nat} {b c : Nat} (f : Fits row b) (h : c ≤ b) : Fits row c := by unfold Fits at *; omega
theorem box1 {p k K b : Nat} {r : List Nat} (g : Good (p :: r)) {q : Nat} (hq : q ≤ p) (hb : b < q ^ k) (h : cnt r b ≤ K) : cnt (p :: r) b ≤ K * k :=
  Nat.le_trans (cnt_box g (Nat.lt_of_lt_of_le hb (Nat.pow_le_pow_left hq k))) (Nat.mul_le_mul_right _ h)
theorem st3 : ∀ p ∈ PR, 2 < p → 3 ≤ p := by decide
theorem st5 : ∀ p ∈ PR, 3 < p → 5 ≤ p := by decide
theorem st7 : ∀ p ∈ PR, 5 < p → 7 ≤ p := by decide
theorem st11 : ∀ p ∈ PR, 7 < p → 11 ≤ p := by decide
theorem st13 : ∀ p ∈ PR, 11 < p → 13 ≤ p := by decide
def QS : List Nat := [2, 3, 5, 7, 11, 13]
/-- the i-th of a row is no less than the i-th prime -/
theorem step_of : ∀ i, i < 5 → ∀ p ∈ PR, QS.getD i 0 < p → QS.getD (i + 1) 0 ≤ p := by decide
theorem row_at : ∀ (row : List Nat) (i : Nat), (∀ p ∈ row, p ∈ PR) → row.Pairwise (· < ·) → row.length + i ≤ 6 → (∀ p ∈ row, QS.getD i 0 ≤ p) → ∀ j p, row[j]? = some p → QS.getD (i + j) 0 ≤ p
  | [], _, _, _, _, _, j, p, h => by simp at h
  | a :: r, i, hm, hp, hl, hg, 0, p, h => by
    simp at h
    subst h
    exact hg a List.mem_cons_self
  | a :: r, i, hm, hp, hl, hg, j + 1, p, h => by
    have h' : r[j]? = some p := by simpa using h
    have := row_at r (i + 1) (fun p h => hm p (List.mem_cons_of_mem _ h)) (List.pairwise_cons.mp hp).2 (by simp at hl; omega) (fun p hpr => by
      have h1 := (List.pairwise_cons.mp hp).1 p hpr
      have h2 := hg a List.mem_cons_self
      have h3 : 0 < r.length := List.length_pos_of_mem hpr
      exact step_of i (by simp at hl; omega) p (hm p (List.mem_cons_of_mem _ hpr)) (by omega)) j p h'
    rw [show i + (j + 1) = i + 1 + j by omega]
    exact this
theorem Rw.at {row : List Nat} (w : Rw row) {j p : Nat} (h : row[j]? = some p) : QS.getD j 0 ≤ p := by
  have := row_at row 0 w.mem w.up (by have := w.le; omega) (fun p hp => (w.ge hp).1) j p h
  rwa [Nat.zero_add] at this
theorem cnt_boxes : ∀ (row qs ks : List Nat) (b : Nat), Good row → row.length ≤ qs.length → (∀ j p q : Nat, row[j]? = some p → qs[j]? = some q → q ≤ p) → ks.length = qs.length → (∀ (j q k : Nat), qs[j]? = some q → ks[j]? = some k → b < q ^ k) → (∀ k ∈ ks, 1 ≤ k) → cnt row b ≤ ks.foldr (· * ·) 1
  | [], qs, ks, b, _, _, _, _, _, h => by
    refine Nat.le_trans cnt_nil ?_
    revert h
    generalize ks = ks'
    intro h
    induction ks' with
    | nil => simp
    | cons k ks ih =>
      rw [List.foldr_cons]
      exact Nat.mul_pos (h k List.mem_cons_self) (ih fun k hk => h k (List.mem_cons_of_mem _ hk))
  | p :: r, [], ks, b, _, hl, _, _, _, _ => by simp at hl
  | p :: r, q :: qs, [], b, _, _, _, hl, _, _ => by simp at hl
  | p :: r, q :: qs, k :: ks, b, g, hl, hq, he, hb, hk => by
    have ih := cnt_boxes r qs ks b g.tail (by simpa using hl) (fun j p q h1 h2 => hq (j + 1) p q (by simpa using h1) (by simpa using h2)) (by simpa using he) (fun j q k h1 h2 => hb (j + 1) q k (by simpa using h1) (by simpa using h2)) fun k h => hk k (List.mem_cons_of_mem _ h)
    rw [List.foldr_cons, Nat.mul_comm]
    exact box1 g (hq 0 p q rfl rfl) (hb 0 q k rfl rfl) ih
theorem getD_take {n j q : Nat} (h : (QS.take n)[j]? = some q) : q = QS.getD j 0 := by
  rw [List.getElem?_take] at h
  split at h
  · rw [List.getD_eq_getElem?_getD, h]; rfl
  · cases h
theorem Rw.box {row : List Nat} (w : Rw row) (n : Nat) (ks : List Nat) (b : Nat) (hl : row.length ≤ (QS.take n).length) (he : ks.length = (QS.take n).length) (hb : ∀ (j q k : Nat), (QS.take n)[j]? = some q → ks[j]? = some k → b < q ^ k) (hk : ∀ k ∈ ks, 1 ≤ k) : cnt row b ≤ ks.foldr (· * ·) 1 :=
  cnt_boxes row (QS.take n) ks b w.good hl (fun j p q h1 h2 => by rw [getD_take h2]; exact w.at h1) he hb hk
theorem all_of {qs ks : List Nat} {B b : Nat} (h : ∀ x ∈ qs.zip ks, B < x.1 ^ x.2) (hb : b ≤ B) : ∀ (j q k : Nat), qs[j]? = some q → ks[j]? = some k → b < q ^ k := fun j q k h1 h2 => by
  have : (q, k) ∈ qs.zip ks := List.mem_iff_getElem?.mpr ⟨j, by rw [List.getElem?_zip_eq_some]; exact ⟨h1, h2⟩⟩
  exact Nat.lt_of_le_of_lt hb (h _ this)
theorem Rw.fit {row : List Nat} (w : Rw row) {b : Nat} (f : Fits row b) : cnt row b ≤ 9000000 := by
  rcases f with ⟨h1, h2⟩ | ⟨h1, h2⟩ | h
  · exact Nat.le_trans (w.box 4 [70, 45, 31, 25] b (by simpa [QS] using h1) rfl (all_of (B := 2 ^ 70 - 1) (by decide) (by omega)) (by decide)) (by decide)
  · exact Nat.le_trans (w.box 5 [37, 24, 16, 14, 11] b (by simpa [QS] using h1) rfl (all_of (B := 2 ^ 37 - 1) (by decide) (by omega)) (by decide)) (by decide)
  · exact Nat.le_trans (w.box 6 [31, 20, 14, 12, 9, 9] b (by simpa [QS] using w.le) rfl (all_of (B := 2 * 10 ^ 9) (by decide) (by omega)) (by decide)) (by decide)
end MA
set_option Elab.async false
set_option linter.all false
set_option maxRecDepth 100000
set_option maxHeartbeats 4000000
namespace Px
open PySem L2 MA
local macro_rules | `(tactic| bv_omega) => `(tactic| first | assumption | omega | exact cm (by omega) | exact cd (by omega) | exact cp (by omega) | exact trivial)
local macro_rules | `(tactic| array_get_dec) => `(tactic| first
  | assumption
  | exact sq_up
  | exact Own.sqi (by assumption) 0 (by rfl)
  | exact Own.sqi (by assumption) 1 (by rfl)
  | exact Own.sqi (by assumption) 2 (by rfl)
  | exact Own.sqi (by assumption) 3 (by rfl)
  | exact Own.sqi (by assumption) 4 (by rfl)
  | exact Own.sq (by assumption) (by assumption)
  | exact sq_new (by assumption) (by assumption))
local macro_rules | `(tactic| clean_wf) => `(tactic| first
  | with_reducible exact ev_c
  | (with_reducible apply ev_v') <;> rfl
  | (with_reducible apply ev_add) <;> clean_wf
  | (with_reducible apply ev_sub) <;> clean_wf
  | (with_reducible apply ev_mul) <;> clean_wf
  | (with_reducible apply ev_mod) <;> clean_wf
  | (with_reducible apply ev_div) <;> clean_wf
  | (with_reducible apply ev_pow) <;> clean_wf
  | (with_reducible apply ev_neg) <;> clean_wf
  | (with_reducible apply ev_lt) <;> clean_wf
  | (with_reducible apply ev_le) <;> clean_wf
  | (with_reducible apply ev_gt) <;> clean_wf
  | (with_reducible apply ev_ge) <;> clean_wf
  | (with_reducible apply ev_eqi) <;> clean_wf
  | (with_reducible apply ev_nei) <;> clean_wf
  | (with_reducible apply ev_len) <;> clean_wf
  | (with_reducible apply ev_ixL) <;> clean_wf
  | (with_reducible apply ev_min) <;> clean_wf
  | (with_reducible apply ev_max) <;> clean_wf
  | (with_reducible apply ev_abs) <;> clean_wf
  | (with_reducible apply ev_intB) <;> clean_wf
  | (with_reducible apply ea_1) <;> clean_wf
  | (with_reducible apply ea_2) <;> clean_wf
  | (with_reducible apply ea_3) <;> clean_wf
  | with_reducible exact ea_nil
  | (with_reducible apply ea_cons) <;> clean_wf
  | with_reducible exact el_nil
  | (with_reducible apply ep_lt) <;> clean_wf
  | (with_reducible apply ep_le) <;> clean_wf
  | (with_reducible apply ep_gt) <;> clean_wf
  | (with_reducible apply ep_ge) <;> clean_wf
  | (with_reducible apply ep_eqi) <;> clean_wf
  | (with_reducible apply ep_nei) <;> clean_wf
  | (with_reducible apply ep_not) <;> clean_wf
  | ((with_reducible apply ep_and) <;> first | (intro _; clean_wf; done) | clean_wf)
  | ((with_reducible apply ep_or) <;> first | (intro _; clean_wf; done) | clean_wf)
  | (with_reducible apply et_t) <;> clean_wf
  | (with_reducible apply eo_is) <;> clean_wf
  | with_reducible exact eo_no
  | array_get_dec
  | bv_omega
  | rfl
  | skip)
local macro_rules | `(tactic| symm_saturate) => `(tactic| first
  | ((with_reducible apply q_set); (focus (clean_wf; done)))
  | ((with_reducible apply s_set); (focus (clean_wf; done)))
  | ((with_reducible apply q_aug (hx := rfl)); (focus (clean_wf; done)))
  | ((with_reducible apply s_aug (hx := rfl)); (focus (clean_wf; done)))
  | ((with_reducible apply q_augC (hx := rfl)); (focus (clean_wf; done)))
  | ((with_reducible apply s_augC (hx := rfl)); (focus (clean_wf; done))))
local macro_rules | `(tactic| subst_eqs) => `(tactic| repeat' (first
  | with_reducible apply w_c
  | ((with_reducible apply w_v'); (focus rfl))
  | with_reducible apply w_op
  | with_reducible apply w_cb
  | with_reducible apply w_cons
  | with_reducible apply w_nil
  | with_reducible apply r_add
  | with_reducible apply r_sub
  | ((with_reducible apply r_mul); (focus (bv_omega; done)))
  | ((with_reducible apply r_div); (focus (bv_omega; done)))
  | ((with_reducible apply r_mod); (focus (bv_omega; done)))
  | ((with_reducible apply r_pow); (focus (bv_omega; done)))
  | with_reducible apply r_lt
  | with_reducible apply r_le
  | with_reducible apply r_gt
  | with_reducible apply r_ge
  | with_reducible apply r_min
  | with_reducible apply r_max
  | with_reducible apply r_intB
  | ((with_reducible apply r_len); (focus (array_get_dec; done)))
  | with_reducible apply w_callW
  | with_reducible apply q_setW
  | with_reducible apply s_setW
  | with_reducible apply s_retW))

abbrev zl (l : List Nat) : List Int := l.map fun (x : Nat) => (x : Int)
abbrev zv (l : List Nat) : List V := (zl l).map V.int
/-! ### the hand -/
abbrev hd (d s : Int) : List V := [.int d, .int s]
def HdOk (d s : Int) : Prop := 0 ≤ d ∧ 0 ≤ s ∧ s < 2147483587
def sp_law_hand (K : PySem.W.Frag) : Sp := fun vs H Q _ => Nod H ∧ ∃ (c k : Int), vs = [.int c, .int k] ∧ 0 ≤ k ∧ k < 1000 ∧ ∀ (p : Addr) (d s : Int), H p = none → HdOk d s → Q (.ref p) (upd H p (.lst (hd d s)))
def sp_law_draw (K : PySem.W.Frag) : Sp := fun vs H Q _ => Nod H ∧ ∃ (a : Addr) (d s m : Int), vs = [.ref a, .int m] ∧ H a = some (.lst (hd d s)) ∧ HdOk d s ∧ 0 < m ∧ m < 2 ^ 200 ∧
  ∀ (r d' s' : Int), 0 ≤ r → r < m → HdOk d' s' → Q (.int r) (upd H a (.lst (hd d' s')))
/-- a draw from a hand that is one's own -/
theorem Own.draw {K : PySem.W.Frag} {B H : Hp} {L : List (Addr × List V)} {p : Addr} {d s m : Int} {Q : VK} {E : XK} (o : Own B L H) (i : Nat) (h : L[i]? = some (p, hd d s)) (ok : HdOk d s) (m0 : 0 < m ∧ m < 2 ^ 200)
    (k : ∀ (r d' s' : Int) (H2 : Hp), 0 ≤ r ∧ r < m → HdOk d' s' → Own B (L.set i (p, hd d' s')) H2 → Q (.int r) H2) : sp_law_draw K ([.ref p, .int m] ++ []) H Q E :=
  ⟨o.nod, p, d, s, m, rfl, o.atI i h, ok, m0.1, m0.2, fun r d' s' h0 h1 ok' => k r d' s' _ ⟨h0, h1⟩ ok' (o.mut i h)⟩
/-! ### the cells -/
/-- what stands where _law_cells has told -/
structure Cells (H : Hp) (l : Addr) (as : List Addr) (ns : List Int) : Prop where
  lst : H l = some (.lst (as.map V.ref))
  len : as.length = ns.length
  tup : ∀ (i : Nat) (b : Addr) (c : Int), as[i]? = some b → ns[i]? = some c → H b = some (.tup [.int (i : Int), .int c])
theorem Cells.ex {H H' : Hp} {l : Addr} {as : List Addr} {ns : List Int} (c : Cells H l as ns) (e : Ex H H') : Cells H' l as ns := ⟨e _ _ c.lst, c.len, fun i b x h1 h2 => e _ _ (c.tup i b x h1 h2)⟩
def sp_law_cells (K : PySem.W.Frag) : Sp := fun vs H Q _ => Nod H ∧ ∃ (a : Addr) (ns : List Int) (m : Nat), vs = [.ref a, .int (m : Int)] ∧ SqL K H a (ns.map V.int) ∧ ns.length ≤ 63 ∧ 
  ∀ (l : Addr) (as : List Addr) (cs : List Int) (H' : Hp), cs.length ≤ 63 → Ex H H' → Nod H' → Cells H' l as cs → (∀ b u, H b = some u → l ≠ b ∧ b ∉ as) → Q (.ref l) H'
theorem nod_layT {H : Hp} (n : Nod H) : ∀ {as : List Addr} {xs : List V} {j : Nat}, Nod (layT H j as xs)
  | [], _, _ => n
  | _ :: _, [], _ => n
  | a :: as, x :: xs, j => by
    have := nod_layT n (as := as) (xs := xs) (j := j + 1)
    show Nod (upd (layT H (j + 1) as xs) a (.tup [.int (j : Int), x]))
    infer_instance
/-- what is forgotten on the way to the cells -/
theorem fg_cells {H H1 : Hp} [n : Nod H] {l : Addr} {as : List Addr} {xs : List V} (e : Ex H H1) (hl : H1 l = none) (hla : l ∉ as) (han : ∀ b ∈ as, H1 b = none) (nd : as.Nodup) (hlen : as.length = xs.length) :
    Fg H (upd (layT H1 0 as xs) l (.lst (as.map V.ref))) (upd (layT H 0 as xs) l (.lst (as.map V.ref))) := by
  refine fg_gen (fun a => a = l ∨ a ∈ as) (fun a u q z => ?_) (fun a z => ?_) (fun a q z => ?_)
  · have z1 : a ≠ l := fun y => z (.inl y)
    have z2 : a ∉ as := fun y => z (.inr y)
    exact ⟨by rw [upd_ne z1, layT_off z2]; exact e a u q, by rw [upd_ne z1, layT_off z2]; exact q⟩
  · by_cases h : a = l
    · subst h
      exact ⟨.lst (as.map V.ref), trivial, upd_same, upd_same, fun u q => by rw [e a u q] at hl; cases hl⟩
    · have hm : a ∈ as := z.resolve_left h
      obtain ⟨i, hi⟩ := List.mem_iff_getElem?.mp hm
      have hi2 : i < xs.length := by rw [← hlen]; exact (List.getElem?_eq_some_iff.mp hi).1
      have hx := List.getElem?_eq_getElem hi2
      exact ⟨.tup [.int ((0 + i : Nat) : Int), xs[i]], trivial, by rw [upd_ne h]; exact layT_at nd hi hx, by rw [upd_ne h]; exact layT_at nd hi hx, fun u q => by have := han a hm; rw [e a u q] at this; cases this⟩
  · have z1 : a ≠ l := fun y => z (.inl y)
    have z2 : a ∉ as := fun y => z (.inr y)
    rw [upd_ne z1, layT_off z2]; exact q
/-- slots: script many -/
abbrev n_law_cells : List Str := ["script", "many"]
def t_law_cells (K : PySem.W.Frag) : TS := (sFg (tRet (tEnumL K (tCons (tOp rCat (tSl (rSlL K) (tVar 0) tNoPart (tPart (tVar 1))) (tOp rRep (tLst (tCons (tC (.int 0)) tNil)) (tCB cInt (tCons (tOp (rEqD K) (tVar 0) (tLst tNil)) tNil)))) tNil))))
theorem r_law_cells {K : PySem.W.Frag} {vs : List V} {H : Hp} {Q : VK} {E : XK} (h : sp_law_cells K vs H Q E) : t_law_cells K { nx := fun _ H' => Q .non H', rt := Q } (start n_law_cells vs) H := by
  obtain ⟨nd, a, ns, m, rfl, ha, hl, q⟩ := h
  refine fg_body (s_retW ?_)
  show tOp rCat (tSl (rSlL K) (tVar 0) tNoPart (tPart (tVar 1))) _ _ H _
  refine w_op (w_evL (el_sl (ev_v 0) eo_no (eo_is (ev_v 1)) ha) fun p1 hp1 => ?_)
  rw [cut_to]
  have o1 : Own H [(p1, (ns.take m).map V.int)] (upd H p1 (.lst ((ns.take m).map V.int))) := Own.nil.new hp1
  refine w_op (w_evL (el_lst (ea_1 ev_c) (by simp)) fun p2 hp2 => ?_)
  have o2 := o1.new (xs := [.int 0]) hp2
  refine w_cb (w_one (w_op (w_v 0 (w_evL el_nil fun p3 hp3 => ?_))))
  have o3 := o2.new (xs := []) hp3
  refine rv_eqI (ns := ns) (ms := []) (o3.sq ha) (o3.sqi 0 rfl) _ (r_intB (w_rep1 (k := 1) (o3.atI 1 rfl) fun p4 hp4 => ?_))
  have o4 := o3.new (xs := (if decide (ns = []) then [V.int 0] else [])) hp4
  refine ⟨p1, p4, _, _, rfl, rfl, o4.atI 3 rfl, o4.atI 0 rfl, ?_, fun p5 hp5 => ?_⟩
  · refine Nat.le_trans (m := 100) ?_ (by decide)
    split <;> simp <;> omega
  have o5 := o4.new (xs := (ns.take m).map V.int ++ (if decide (ns = []) then [V.int 0] else [])) hp5
  have ex : ∃ cs : List Int, (ns.take m).map V.int ++ (if decide (ns = []) then [V.int 0] else []) = cs.map V.int ∧ cs.length ≤ 63 := by
    by_cases h0 : ns = []
    · subst h0
      exact ⟨[0], by simp, by simp⟩
    · exact ⟨ns.take m, by simp [h0], by rw [List.length_take]; omega⟩
  obtain ⟨cs, ecs, hcs⟩ := ex
  rw [ecs] at o5 ⊢
  refine ⟨p5, cs.map V.int, rfl, o5.sqi 0 rfl, fun l as h1 h2 h3 h4 h5 => ?_⟩
  refine ⟨_, fg_cells o5.ex h1 h2 h4 h3 h5, q l as cs _ hcs ?_ ?_ ⟨upd_same, by simpa using h5, fun i b c e1 e2 => ?_⟩ fun b u hb => ⟨fun z => ?_, fun z => ?_⟩⟩
  · intro b u hb
    have hb5 := o5.ex b u hb
    rw [upd_ne (ne_of_none hb5 h1), layT_off (fun z => by rw [h4 b z] at hb5; cases hb5)]
    exact hb
  · have := nod_layT nd (as := as) (xs := cs.map V.int) (j := 0)
    infer_instance
  · have hb : b ≠ l := fun z => h2 (z ▸ List.mem_of_getElem? e1)
    rw [upd_ne hb, layT_at h3 e1 (by rw [List.getElem?_map, e2]; rfl), Nat.zero_add]
  · subst z
    have := o5.ex _ _ hb
    rw [h1] at this
    cases this
  · have := o5.ex _ _ hb
    rw [h4 b z] at this
    cases this
/-- for k, cell in _law_cells(script, m): P of the slots; what is made in a turn may stay -/
theorem for_cells {K : PySem.W.Frag} {σ : L2.St} {H : Hp} {D : Ends} {tu s2 : TS} {ta : TA} {n1 n2 : Nat} {a : Addr} {ns : List Int} {m : Nat} [nd : Nod H] (h : EvA ta σ H [.ref a, .int (m : Int)]) (ha : SqL K H a (ns.map V.int)) (hl : ns.length ≤ 63) (P : L2.St → Prop) (h0 : P σ)
    (hs : ∀ (H1 : Hp), Ex H H1 → ∀ (k c : Int) σ' H', 0 ≤ k → k < 63 → P σ' → Ex H1 H' → Nod H' → tu { D with nx := fun σ2 H2 => P σ2 ∧ Ex H1 H2 ∧ Nod H2, ct := fun σ2 H2 => P σ2 ∧ Ex H1 H2 ∧ Nod H2, bk := s2 D } ((σ'.set n1 (some (.int k))).set n2 (some (.int c))) H')
    (hd : ∀ σ' H', P σ' → Ex H H' → Nod H' → s2 D σ' H') : tSeq (tFor (iList K (tCall (sp_law_cells K) [] E0 ta)) (gTup K 2 (gCons (gName n1) (gCons (gName n2) gNil))) tu) s2 D σ H := by
  refine q_seq (w_forL (w_call h ⟨nd, a, ns, m, rfl, ha, hl, fun l as cs H1 hc e1 n1' C _ => ⟨l, rfl, ⟨_, sq_at C.lst⟩, ?_⟩⟩))
  refine lp_list (xs := as.map V.ref) (fun i σ' H' => P σ' ∧ Ex H1 H' ∧ Nod H') ⟨h0, ex_refl, n1'⟩ (fun i σ' H' _ hv => sq_at (hv.2.1 _ _ C.lst)) (fun i x σ' H' hi hv => ?_) (fun σ' H' hv => hd σ' H' hv.1 (ex_trans e1 hv.2.1) hv.2.2)
  rw [List.getElem?_map] at hi
  cases e : as[i]? with
  | none => rw [e] at hi; cases hi
  | some b =>
    rw [e] at hi
    cases hi
    have hlt : i < cs.length := by rw [← C.len]; exact (List.getElem?_eq_some_iff.mp e).1
    have hx := List.getElem?_eq_getElem hlt
    refine ⟨b, _, rfl, st_at (hv.2.1 _ _ (C.tup i b _ e hx)), rfl, _, _, rfl, _, _, rfl, rfl, ?_⟩
    exact hs H1 e1 (i : Int) cs[i] σ' H' (by omega) (by omega) hv.1 hv.2.1 hv.2.2
end Px
set_option Elab.async false
set_option linter.all false
set_option maxRecDepth 100000
set_option maxHeartbeats 4000000
namespace Px
open PySem L2 MA
local macro_rules | `(tactic| bv_omega) => `(tactic| first | assumption | omega | exact cm (by omega) | exact cd (by omega) | exact cp (by omega) | exact trivial)
local macro_rules | `(tactic| array_get_dec) => `(tactic| first
  | assumption
  | exact sq_up
  | exact Own.sqi (by assumption) 0 (by rfl)
  | exact Own.sqi (by assumption) 1 (by rfl)
  | exact Own.sqi (by assumption) 2 (by rfl)
  | exact Own.sqi (by assumption) 3 (by rfl)
  | exact Own.sqi (by assumption) 4 (by rfl)
  | exact Own.sq (by assumption) (by assumption)
  | exact sq_new (by assumption) (by assumption))
local macro_rules | `(tactic| clean_wf) => `(tactic| first
  | with_reducible exact ev_c
  | (with_reducible apply ev_v') <;> rfl
  | (with_reducible apply ev_add) <;> clean_wf
  | (with_reducible apply ev_sub) <;> clean_wf
  | (with_reducible apply ev_mul) <;> clean_wf
  | (with_reducible apply ev_mod) <;> clean_wf
  | (with_reducible apply ev_div) <;> clean_wf
  | (with_reducible apply ev_pow) <;> clean_wf
  | (with_reducible apply ev_neg) <;> clean_wf
  | (with_reducible apply ev_lt) <;> clean_wf
  | (with_reducible apply ev_le) <;> clean_wf
  | (with_reducible apply ev_gt) <;> clean_wf
  | (with_reducible apply ev_ge) <;> clean_wf
  | (with_reducible apply ev_eqi) <;> clean_wf
  | (with_reducible apply ev_nei) <;> clean_wf
  | (with_reducible apply ev_len) <;> clean_wf
  | (with_reducible apply ev_ixL) <;> clean_wf
  | (with_reducible apply ev_min) <;> clean_wf
  | (with_reducible apply ev_max) <;> clean_wf
  | (with_reducible apply ev_abs) <;> clean_wf
  | (with_reducible apply ev_intB) <;> clean_wf
  | (with_reducible apply ea_1) <;> clean_wf
  | (with_reducible apply ea_2) <;> clean_wf
  | (with_reducible apply ea_3) <;> clean_wf
  | with_reducible exact ea_nil
  | (with_reducible apply ea_cons) <;> clean_wf
  | with_reducible exact el_nil
  | (with_reducible apply ep_lt) <;> clean_wf
  | (with_reducible apply ep_le) <;> clean_wf
  | (with_reducible apply ep_gt) <;> clean_wf
  | (with_reducible apply ep_ge) <;> clean_wf
  | (with_reducible apply ep_eqi) <;> clean_wf
  | (with_reducible apply ep_nei) <;> clean_wf
  | (with_reducible apply ep_not) <;> clean_wf
  | ((with_reducible apply ep_and) <;> first | (intro _; clean_wf; done) | clean_wf)
  | ((with_reducible apply ep_or) <;> first | (intro _; clean_wf; done) | clean_wf)
  | (with_reducible apply et_t) <;> clean_wf
  | (with_reducible apply eo_is) <;> clean_wf
  | with_reducible exact eo_no
  | array_get_dec
  | bv_omega
  | rfl
  | skip)
local macro_rules | `(tactic| symm_saturate) => `(tactic| first
  | ((with_reducible apply q_set); (focus (clean_wf; done)))
  | ((with_reducible apply s_set); (focus (clean_wf; done)))
  | ((with_reducible apply q_aug (hx := rfl)); (focus (clean_wf; done)))
  | ((with_reducible apply s_aug (hx := rfl)); (focus (clean_wf; done)))
  | ((with_reducible apply q_augC (hx := rfl)); (focus (clean_wf; done)))
  | ((with_reducible apply s_augC (hx := rfl)); (focus (clean_wf; done))))
local macro_rules | `(tactic| subst_eqs) => `(tactic| repeat' (first
  | with_reducible apply w_c
  | ((with_reducible apply w_v'); (focus rfl))
  | with_reducible apply w_op
  | with_reducible apply w_cb
  | with_reducible apply w_cons
  | with_reducible apply w_nil
  | with_reducible apply r_add
  | with_reducible apply r_sub
  | ((with_reducible apply r_mul); (focus (bv_omega; done)))
  | ((with_reducible apply r_div); (focus (bv_omega; done)))
  | ((with_reducible apply r_mod); (focus (bv_omega; done)))
  | ((with_reducible apply r_pow); (focus (bv_omega; done)))
  | with_reducible apply r_lt
  | with_reducible apply r_le
  | with_reducible apply r_gt
  | with_reducible apply r_ge
  | with_reducible apply r_min
  | with_reducible apply r_max
  | with_reducible apply r_intB
  | ((with_reducible apply r_len); (focus (array_get_dec; done)))
  | with_reducible apply w_callW
  | with_reducible apply q_setW
  | with_reducible apply s_setW
  | with_reducible apply s_retW))

theorem zl_perm {ns : List Int} {acc : List Nat} (p : ns.Perm (zl acc)) : ∃ l : List Nat, ns = zl l ∧ l.Perm acc := by
  refine ⟨ns.map Int.toNat, ?_, ?_⟩
  · have h : ∀ x ∈ ns, 0 ≤ x := fun x hx => by
      obtain ⟨y, _, rfl⟩ := List.mem_map.mp (p.mem_iff.mp hx)
      omega
    clear p
    induction ns with
    | nil => rfl
    | cons a l ih =>
      simp only [zl, List.map_cons] at ih ⊢
      rw [← ih fun x hx => h x (List.mem_cons_of_mem _ hx), Int.toNat_of_nonneg (h a List.mem_cons_self)]
  · have := p.map Int.toNat
    rw [show (zl acc).map Int.toNat = acc by simp [zl, Function.comp_def]] at this
    exact this
theorem zl_le {l : List Nat} (h : (zl l).Pairwise (· ≤ ·)) : l.Pairwise (· ≤ ·) := by
  rw [zl, List.pairwise_map] at h
  exact h.imp fun z => by omega
theorem zl_len (l : List Nat) : (zl l).length = l.length := List.length_map _
theorem zv_len (l : List Nat) : (zv l).length = l.length := by simp
theorem zv_get {l : List Nat} {i x : Nat} (h : l[i]? = some x) : (zv l)[i]? = some (.int (x : Int)) := by simp [h]
theorem zv_app (l m : List Nat) : zv (l ++ m) = zv l ++ zv m := by simp
theorem zv_at {l : List Nat} {i : Nat} (h : i < l.length) : atI (zv l) (i : Int) = some (.int ((l[i] : Nat) : Int)) := at_of rfl (zv_get (List.getElem?_eq_getElem h))
theorem List.eraseIdx_mapL {α β : Type} (f : α → β) : ∀ (l : List α) (i : Nat), (l.map f).eraseIdx i = (l.eraseIdx i).map f
  | [], _ => rfl
  | _ :: _, 0 => rfl
  | a :: l, i + 1 => by simp [List.eraseIdx_mapL f l i]
theorem erase_perm : ∀ {l : List Nat} {i : Nat} (h : i < l.length), l.Perm (l[i] :: l.eraseIdx i)
  | a :: l, 0, _ => .refl _
  | a :: l, i + 1, h => by
    have h' : i < l.length := by simpa using h
    exact ((erase_perm h').cons a).trans (.swap ..)
section
variable {K : PySem.W.Frag} {σ : L2.St} {H : Hp} {ta te : TE} {Q : VK}
theorem r_sortN {p : Addr} {acc : List Nat} (s : SqL K H p (zv acc)) (k : ∀ (l : List Nat) q, l.Perm acc → l.Pairwise (· ≤ ·) → H q = none → Q (.ref q) (upd H q (.lst (zv l)))) : rSortedI K [.ref p] H Q :=
  ⟨p, zl acc, rfl, s, fun ns' q hp hs hn => by
    obtain ⟨l, rfl, h⟩ := zl_perm hp
    exact k l q h (zl_le hs) hn⟩
theorem seq_ix {n : Nat} {i : Int} (h0 : 0 ≤ i) (h1 : i < n) : seqIndex? i n = some i.toNat := by
  obtain ⟨k, rfl⟩ : ∃ k : Nat, i = (k : Int) := ⟨i.toNat, by omega⟩
  unfold seqIndex?
  have h2 : k < n := by omega
  have h3 : ¬ (k : Int) < 0 := by omega
  simp [h2, h3]
theorem w_pop {a : Addr} {xs : List V} {t : TA} (ha : Ev ta σ H (.ref a)) (hx : SqL K H a xs) (ht : t σ H fun vs H2 => ∃ (ys : List V) (i : Int) (y : V), vs = [.int i] ∧ H2 a = some (.lst ys) ∧ 0 ≤ i ∧ i < ys.length ∧ i < 2 ^ 60 ∧ ys[i.toNat]? = some y ∧ Q y (upd H2 a (.lst (ys.eraseIdx i.toNat)))) (mono : ∀ Q1 Q2 : List V → Hp → Prop, (∀ v H1, Q1 v H1 → Q2 v H1) → t σ H Q1 → t σ H Q2) : tBM K "list" rPopAt ta t σ H Q :=
  ha _ ⟨.inl ⟨rfl, _, hx⟩, mono _ _ (fun vs H2 z => by
    obtain ⟨ys, i, y, rfl, h1, h2, h3, h4, h5, q⟩ := z
    exact ⟨a, ys, i, i.toNat, y, rfl, rfl, h1, by omega, by omega, seq_ix h2 h3, h5, q⟩) ht⟩
theorem w_popR {a : Addr} {xs : List V} {t : TA} (ha : Ev ta σ H (.ref a)) (hx : SqL K H a xs) (ht : t σ H fun vs H2 => rPopAt (.ref a) vs H2 Q) : tBM K "list" rPopAt ta t σ H Q := ha _ ⟨.inl ⟨rfl, _, hx⟩, ht⟩
theorem r_popN {a : Addr} {l : List Nat} {i : Nat} (h : H a = some (.lst (zv l))) (hi : i < l.length) (hz : i < 1000000) (k : Q (.int ((l[i] : Nat) : Int)) (upd H a (.lst (zv (l.eraseIdx i))))) : rPopAt (.ref a) [.int (i : Int)] H Q :=
  ⟨a, zv l, i, i, _, rfl, rfl, h, by omega, by omega, by rw [seq_ix (by omega) (by rw [zv_len]; omega)]; simp, zv_get (List.getElem?_eq_getElem hi), by
    have e : (zv l).eraseIdx i = zv (l.eraseIdx i) := by rw [zv, zl, List.map_map, List.eraseIdx_mapL, zv, zl, List.map_map]
    rw [e]
    exact k⟩
end
theorem pr_up : PR.Pairwise (· < ·) := by decide
/-! ### the bound of a row -/
def topN (row : List Nat) : Nat := if 4 < row.length then 10 ^ 9 else 10 ^ 18
theorem top_fits {row : List Nat} (w : Rw row) {b : Nat} (h : b ≤ topN row) : Fits row b := by
  unfold topN at h
  unfold Fits
  have := w.le
  split at h <;> omega
theorem top_ge {row : List Nat} : 10 ^ 9 ≤ topN row ∧ topN row ≤ 10 ^ 18 := by unfold topN; split <;> omega
def ten (k : Nat) : Str := PySem.Str.ofString "1" ++ Txt.mul (PySem.Str.ofString "0") (k : Int)
theorem ten_all : ∀ k : Fin 40, PySem.intText? (ten k) = some ((10 : Int) ^ (k : Nat)) ∧ (ten k).length ≤ 640 ∧ (PySem.Str.ofString "1").length + (Txt.mul (PySem.Str.ofString "0") ((k : Nat) : Int)).length ≤ 1000 := by decide +kernel
theorem ten_mul (k : Nat) (h : k < 40) : MulOk (PySem.Str.ofString "0") (k : Int) := PyProof.Rows.mulOk_of 1 40 (by decide +kernel) (by omega) (by omega) (by decide) (by decide)
theorem r_ten {σ : L2.St} {H : Hp} {Q : VK} {k : Nat} (hk : k < 40) (q : Q (.int (10 ^ k)) H) : oRepS (.str (PySem.Str.ofString "0")) (.int (k : Int)) H fun y H2 => oCatS (.str (PySem.Str.ofString "1")) y H2 fun x H3 => tNil σ H3 fun xs H4 => cIntS (x :: xs) H4 Q := by
  obtain ⟨h1, h2, h3⟩ := ten_all ⟨k, hk⟩
  exact ⟨_, (k : Int), rfl, rfl, ten_mul k hk, _, _, rfl, rfl, Nat.le_trans h3 (by decide), ten k, _, rfl, h1, h2, q⟩
def strLen (n : Nat) : Nat := (PySem.Str.ofString (toString (n : Int))).length
structure TopOk (top : Nat) : Prop where
  pos : 0 < top
  le : top ≤ 10 ^ 18
  l2 : 2 ≤ strLen top
  l40 : strLen top ≤ 20
theorem top6 : TopOk (10 ^ 6) := ⟨by decide, by decide, by decide +kernel, by decide +kernel⟩
theorem top9 : TopOk (10 ^ 9) := ⟨by decide, by decide, by decide +kernel, by decide +kernel⟩
theorem top18 : TopOk (10 ^ 18) := ⟨by decide, by decide, by decide +kernel, by decide +kernel⟩
theorem topN_ok {row : List Nat} : TopOk (topN row) := by
  unfold topN
  split
  · exact top9
  · exact top18
theorem r_strlen {H : Hp} {Q : VK} {σ : L2.St} {top : Nat} (t : TopOk top) (q : Q (.int (strLen top : Int)) H) : cStr [.int (top : Int)] H fun x H1 => tNil σ H1 fun xs H2 => cLenS (x :: xs) H2 Q := by
  refine ⟨_, rfl, ?_, _, rfl, ?_, q⟩
  · have h1 := t.le
    have h0 := t.pos
    show ((top : Int).natAbs).log2 < 1920
    rw [Int.natAbs_natCast]
    have : top.log2 < 60 := (Nat.log2_lt (by omega)).mpr (by omega)
    omega
  · exact Nat.le_trans t.l40 (by decide)
end Px
set_option linter.all false
set_option maxHeartbeats 1000000
namespace MA
/-! ### one prime more, place by place -/
structure Gr (r L : List Nat) (p b : Nat) (F : List Nat) (k : Nat) : Prop where
  nd : F.Nodup
  made : ∀ y ∈ F, Mk (p :: r) y ∧ y ≤ b
  hL : ∀ y ∈ L, y ∈ F
  done : ∀ j x, j < k → F[j]? = some x → x * p ≤ b → x * p ∈ F
  from_ : ∀ y ∈ F, y ∈ L ∨ ∃ j x, j < k ∧ F[j]? = some x ∧ y = x * p
theorem Gr.start {r L : List Nat} {p b : Nat} (h : IsAll r b L) : Gr r L p b L 0 := ⟨h.1, fun y hy => ⟨mk_mono (fun _ z => List.mem_cons_of_mem _ z) ((h.2 y).mp hy).1, ((h.2 y).mp hy).2⟩, fun _ h => h, fun j x h => by omega, fun y hy => .inl hy⟩
theorem Gr.stay {r L F : List Nat} {p b k x : Nat} (g : Gr r L p b F k) (hx : F[k]? = some x) (h : ¬ x * p ≤ b) : Gr r L p b F (k + 1) := ⟨g.nd, g.made, g.hL, fun j y hj hy hb => by
  by_cases e : j = k
  · subst e; rw [hx] at hy; cases hy; exact absurd hb h
  · exact g.done j y (by omega) hy hb, fun y hy => by
  rcases g.from_ y hy with z | ⟨j, x, h1, h2, h3⟩
  · exact .inl z
  · exact .inr ⟨j, x, by omega, h2, h3⟩⟩
theorem Gr.grow {r L F : List Nat} {p b k x : Nat} (g : Gr r L p b F k) (gd : Good (p :: r)) (h0 : IsAll r b L) (hx : F[k]? = some x) (h : x * p ≤ b) : Gr r L p b (F ++ [x * p]) (k + 1) := by
  have hk := (List.getElem?_eq_some_iff.mp hx).1
  have hp := gd.head
  have keep : ∀ j y, F[j]? = some y → (F ++ [x * p])[j]? = some y := fun j y hj => by rw [List.getElem?_append_left (List.getElem?_eq_some_iff.mp hj).1]; exact hj
  refine ⟨?_, fun y hy => ?_, fun y hy => List.mem_append_left _ (g.hL y hy), fun j y hj hy hb => ?_, fun y hy => ?_⟩
  · rw [List.nodup_append]
    refine ⟨g.nd, by simp, fun a ha c hc e => ?_⟩
    rw [List.mem_singleton] at hc
    subst e hc
    rcases g.from_ _ ha with z | ⟨j, x', h1, h2, h3⟩
    · exact gd.ndvd ((h0.2 _).mp z).1 ⟨x, Nat.mul_comm _ _⟩
    · have e : x = x' := Nat.eq_of_mul_eq_mul_right (by omega) h3
      subst e
      have := (List.getElem?_inj (by have := (List.getElem?_eq_some_iff.mp h2).1; omega) g.nd).mp (h2.trans hx.symm)
      omega
  · rcases List.mem_append.mp hy with z | z
    · exact g.made y z
    · rw [List.mem_singleton] at z
      subst z
      exact ⟨by rw [Nat.mul_comm]; exact .mul List.mem_cons_self (g.made x (List.mem_of_getElem? hx)).1, h⟩
  · by_cases hjk : j < k
    · have hj' : j < F.length := by omega
      rw [List.getElem?_append_left hj'] at hy
      exact List.mem_append_left _ (g.done j y hjk hy hb)
    · have e : j = k := by omega
      subst e
      rw [List.getElem?_append_left hk, hx] at hy
      cases hy
      exact List.mem_append_right _ (by simp)
  · rcases List.mem_append.mp hy with z | z
    · rcases g.from_ y z with z | ⟨j, x', h1, h2, h3⟩
      · exact .inl z
      · exact .inr ⟨j, x', by omega, keep j x' h2, h3⟩
    · exact .inr ⟨k, x, by omega, keep k x hx, List.mem_singleton.mp z⟩
theorem Gr.len {r L F : List Nat} {p b k : Nat} (g : Gr r L p b F k) : F.length ≤ cnt (p :: r) b := cnt_le g.nd g.made
theorem Gr.fin {r L F : List Nat} {p b : Nat} (g : Gr r L p b F F.length) (gd : Good (p :: r)) (h0 : IsAll r b L) : IsAll (p :: r) b F := MA.grow gd h0 g.nd g.made g.hL fun x hx hb => by
  obtain ⟨j, hj⟩ := List.mem_iff_getElem?.mp hx
  exact g.done j x (List.getElem?_eq_some_iff.mp hj).1 hj hb
/-! ### the rows' first part, prime by prime -/
theorem take_perm {row : List Nat} {i p : Nat} (h : row[i]? = some p) : (row.take (i + 1)).Perm (p :: row.take i) := by
  rw [List.take_add_one, h]
  exact List.perm_append_comm
theorem take_good {row : List Nat} {i p : Nat} (g : Good row) (h : row[i]? = some p) : Good (p :: row.take i) := (g.sub (List.take_sublist (i + 1) row)).perm (take_perm h).symm
theorem take_all {row F : List Nat} {i p b : Nat} (h : row[i]? = some p) (a : IsAll (p :: row.take i) b F) : IsAll (row.take (i + 1)) b F := a.congr fun q => (take_perm h).symm.mem_iff
theorem take_cnt {row : List Nat} {i p b : Nat} (h : row[i]? = some p) : cnt (p :: row.take i) b ≤ cnt row b := cnt_row fun q hq => List.mem_of_mem_take ((take_perm h).symm.mem_iff.mp hq)
/-! ### powers counted -/
theorem pwl_div {p b x : Nat} (hx : 0 < x) (hp : 2 ≤ p) : ∀ y, 0 < y → (pwl p b (x * y)).length = (pwl p (b / x) y).length := by
  intro y
  induction y using pwl.induct p (b / x) with
  | case1 y h ih =>
    intro hy
    have h1 : x * y ≤ b := by rw [Nat.mul_comm]; exact (Nat.le_div_iff_mul_le hx).mp h.2.2
    rw [pwl_yes hp hy h.2.2, pwl_yes hp (Nat.mul_pos hx hy) h1, List.length_cons, List.length_cons, Nat.mul_assoc, ih (Nat.mul_pos hy (by omega))]
  | case2 y h =>
    intro hy
    have h1 : ¬ y ≤ b / x := fun z => h ⟨hp, hy, z⟩
    have h2 : ¬ x * y ≤ b := fun z => h1 ((Nat.le_div_iff_mul_le hx).mpr (by rw [Nat.mul_comm]; exact z))
    rw [pwl_no (by omega), pwl_no (by omega)]
theorem pwl_div1 {p b x : Nat} (hx : 0 < x) (hp : 2 ≤ p) : (pwl p b x).length = (pwl p (b / x) 1).length := by
  have := pwl_div (b := b) hx hp 1 (by omega)
  rwa [Nat.mul_one] at this
/-! ### next, last -/
structure Gn (p b x y : Nat) : Prop where
  pw : ∃ k, y = x * p ^ k
  gt : b < y * p
  le : x ≤ b → y ≤ b
theorem Gn.ge {p b x y : Nat} (g : Gn p b x y) (hp : 2 ≤ p) : x ≤ y := by
  obtain ⟨k, rfl⟩ := g.pw
  exact Nat.le_mul_of_pos_right _ (Nat.pow_pos (by omega))
/-- the least power that is enough -/
theorem Gn.least {p b x y : Nat} (g : Gn p b x y) (hp : 2 ≤ p) (hxb : x ≤ b) (hx : 0 < x) {k : Nat} (h : b < x * p ^ k) : y * p ≤ x * p ^ k := by
  obtain ⟨⟨j, rfl⟩, gt, le⟩ := g
  have h1 := le hxb
  have hj : j < k := by
    rcases Nat.lt_or_ge j k with z | z
    · exact z
    · have : x * p ^ k ≤ x * p ^ j := Nat.mul_le_mul_left x (Nat.pow_le_pow_right (by omega) z)
      omega
  rw [Nat.mul_assoc, ← Nat.pow_succ]
  exact Nat.mul_le_mul_left x (Nat.pow_le_pow_right (by omega) hj)
theorem Gn.most {p b x y : Nat} (g : Gn p b x y) (hp : 2 ≤ p) (hx : 0 < x) {k : Nat} (h : x * p ^ k ≤ b) : x * p ^ k ≤ y := by
  obtain ⟨⟨j, rfl⟩, gt, le⟩ := g
  have hj : k ≤ j := by
    rcases Nat.lt_or_ge j k with z | z
    · have : x * p ^ (j + 1) ≤ x * p ^ k := Nat.mul_le_mul_left x (Nat.pow_le_pow_right (by omega) z)
      rw [Nat.pow_succ, ← Nat.mul_assoc] at this
      omega
    · exact z
  exact Nat.mul_le_mul_left x (Nat.pow_le_pow_right (by omega) hj)
theorem pow_le_self {x p k : Nat} (hp : 2 ≤ p) : x ≤ x * p ^ k := Nat.le_mul_of_pos_right _ (Nat.pow_pos (by omega))
/-- the best of all rests -/
theorem next_of {p : Nat} {r L : List Nat} {n b0 best : Nat} (g : Good (p :: r)) (hL : IsAll r b0 L) (h0 : Mk (p :: r) b0) (hb0 : n < b0) (hm : Mk (p :: r) best) (hg : n < best) (hle : best ≤ b0)
    (hall : ∀ x ∈ L, ∀ k, n < x * p ^ k → best ≤ x * p ^ k) : IsNext (p :: r) n best := ⟨hm, hg, fun m hmk hnm => by
  rcases Nat.lt_or_ge b0 m with z | z
  · omega
  · obtain ⟨k, x, rfl, hx⟩ := mk_cons.mp hmk
    exact hall x ((hL.2 x).mpr ⟨hx, Nat.le_trans (pow_le_self g.head) z⟩) k hnm⟩
theorem last_of {p : Nat} {r L : List Nat} {n best : Nat} (g : Good (p :: r)) (hL : IsAll r (n - 1) L) (hm : Mk (p :: r) best) (hg : best < n) (hall : ∀ x ∈ L, ∀ k, x * p ^ k ≤ n - 1 → x * p ^ k ≤ best) : IsLast (p :: r) n best := ⟨hm, hg, fun m hmk hnm => by
  obtain ⟨k, x, rfl, hx⟩ := mk_cons.mp hmk
  exact hall x ((hL.2 x).mpr ⟨hx, Nat.le_trans (pow_le_self (k := k) g.head) (by omega)⟩) k (by omega)⟩
theorem next_le {row : List Nat} {n m p : Nat} (h : IsNext row n m) (hn : Mk row n) (hp : p ∈ row) (h2 : 2 ≤ p) (hpos : 0 < n) : m ≤ n * p := h.le _ (by rw [Nat.mul_comm]; exact .mul hp hn) (by have : n * 2 ≤ n * p := Nat.mul_le_mul_left n h2; omega)
/-- a power of a prime of the row is never far -/
theorem next_far {row : List Nat} {n m p : Nat} (g : Good row) (h : IsNext row n m) (hp : p ∈ row) (hn : 0 < n) : m ≤ n * p := by
  have h2 := g.ge p hp
  have key : ∀ k, p ^ k ≤ n → ∃ j, p ^ j ≤ n ∧ n < p ^ (j + 1) := by
    intro k
    generalize e : n - p ^ k = d
    induction d using Nat.strongRecOn generalizing k with
    | ind d ih =>
      intro hk
      by_cases h3 : p ^ (k + 1) ≤ n
      · have h4 : p ^ k * 2 ≤ p ^ (k + 1) := by rw [Nat.pow_succ]; exact Nat.mul_le_mul_left _ h2
        have h5 : 0 < p ^ k := Nat.pow_pos (by omega)
        exact ih (n - p ^ (k + 1)) (by omega) (k + 1) rfl h3
      · exact ⟨k, hk, by omega⟩
  obtain ⟨j, h3, h4⟩ := key 0 (by rw [Nat.pow_zero]; exact hn)
  refine Nat.le_trans (h.le _ (mk_pow hp (j + 1)) h4) ?_
  rw [Nat.pow_succ]
  exact Nat.mul_le_mul_right p h3
/-! ### the first so many -/
def IsFst (row : List Nat) (m : Nat) (l : List Nat) : Prop := (m = 0 ∧ l = []) ∨ ∃ c, Mk row c ∧ cnt row c = m ∧ l = allL row c
theorem IsFst.len {row l : List Nat} {m : Nat} (h : IsFst row m l) : l.length = m := by
  rcases h with ⟨rfl, rfl⟩ | ⟨c, _, rfl, rfl⟩
  · rfl
  · rfl
theorem mk_inj {row : List Nat} {a b : Nat} (ha : Mk row a) (hb : Mk row b) (e : cnt row a = cnt row b) : a = b := by
  rcases Nat.lt_trichotomy a b with z | z | z
  · have := cnt_lt z hb; omega
  · exact z
  · have := cnt_lt z ha; omega
theorem IsFst.uniq {row l l' : List Nat} {m : Nat} (g : ∀ p ∈ row, 2 ≤ p) (h : IsFst row m l) (h' : IsFst row m l') : l = l' := by
  rcases h with ⟨rfl, rfl⟩ | ⟨c, h1, h2, rfl⟩
  · have := h'.len
    exact (List.length_eq_zero_iff.mp this).symm
  · rcases h' with ⟨rfl, rfl⟩ | ⟨c', h1', h2', rfl⟩
    · have := cnt_pos (row := row) (mk_pos g h1); omega
    · rw [mk_inj h1 h1' (h2.trans h2'.symm)]
theorem allL_last {row : List Nat} {c : Nat} (h : Mk row c) (h0 : 0 < c) : allL row c = allL row (c - 1) ++ [c] := by
  cases c with
  | zero => omega
  | succ c => exact allL_succ_yes h
theorem allL_next {row : List Nat} {n m : Nat} (h : IsNext row n m) : allL row m = allL row n ++ [m] := by
  have := h.gt
  rw [allL_last h.made (by omega), allL_gap (row := row) (a := n) (b := m - 1) (by omega) fun k h1 h2 hk => by have := h.le k hk h1; omega]
theorem get_lt {l : List Nat} (h : l.Pairwise (· < ·)) {i j x y : Nat} (hi : l[i]? = some x) (hj : l[j]? = some y) (hij : i < j) : x < y := by
  obtain ⟨h1, rfl⟩ := List.getElem?_eq_some_iff.mp hi
  obtain ⟨h2, rfl⟩ := List.getElem?_eq_some_iff.mp hj
  exact List.pairwise_iff_getElem.mp h i j h1 h2 hij
structure FS (row F pl : List Nat) (c : Nat) : Prop where
  mkc : Mk row c
  eq : F = allL row c
  len : pl.length = row.length
  ok : ∀ j p k : Nat, row[j]? = some p → pl[j]? = some k → ∃ x, F[k]? = some x ∧ c < x * p ∧ ∀ i y : Nat, i < k → F[i]? = some y → y * p ≤ c
theorem FS.start {row : List Nat} (g : ∀ p ∈ row, 2 ≤ p) : FS row [1] (List.replicate row.length 0) 1 := ⟨.one, by
  have : allL row 1 = allL row 0 ++ [1] := allL_succ_yes .one
  rw [this, show allL row 0 = [] from List.length_eq_zero_iff.mp (cnt_zero g)]; rfl, by simp, fun j p k h1 h2 => by
  rw [List.getElem?_replicate] at h2
  split at h2
  · cases h2
    have := g p (List.mem_of_getElem? h1)
    exact ⟨1, rfl, by omega, fun i y hi => by omega⟩
  · cases h2⟩
/-- the least of the products is the next one -/
theorem FS.next {row F pl : List Nat} {c m : Nat} (g : Good row) (f : FS row F pl c) (hm : ∃ j p k x : Nat, row[j]? = some p ∧ pl[j]? = some k ∧ F[k]? = some x ∧ m = x * p) (hle : ∀ j p k x : Nat, row[j]? = some p → pl[j]? = some k → F[k]? = some x → m ≤ x * p) : IsNext row c m := by
  obtain ⟨j, p, k, x, h1, h2, h3, rfl⟩ := hm
  obtain ⟨x', e1, e2, e3⟩ := f.ok j p k h1 h2
  rw [h3] at e1
  cases e1
  have hF : ∀ y ∈ F, Mk row y ∧ y ≤ c := fun y hy => by rw [f.eq] at hy; exact allL_mem.mp hy
  refine ⟨by rw [Nat.mul_comm]; exact .mul (List.mem_of_getElem? h1) (hF x (List.mem_of_getElem? h3)).1, e2, fun n hn hcn => ?_⟩
  have hc0 := mk_pos g.ge f.mkc
  obtain ⟨q, hq, n', rfl, hn'⟩ := mk_step hn (by omega)
  obtain ⟨i, hi⟩ := List.mem_iff_getElem?.mp hq
  have hil : i < pl.length := by rw [f.len]; exact (List.getElem?_eq_some_iff.mp hi).1
  obtain ⟨z, hz1, hz2, hz3⟩ := f.ok i q pl[i] hi (List.getElem?_eq_getElem hil)
  refine Nat.le_trans (hle i q pl[i] z hi (List.getElem?_eq_getElem hil) hz1) ?_
  rw [Nat.mul_comm q]
  refine Nat.mul_le_mul_right q ?_
  -- z ≤ n'
  rcases Nat.lt_or_ge c n' with h | h
  · have := (hF z (List.mem_of_getElem? hz1)).2; omega
  · have hmem : n' ∈ F := by rw [f.eq]; exact allL_mem.mpr ⟨hn', h⟩
    obtain ⟨t, ht⟩ := List.mem_iff_getElem?.mp hmem
    rcases Nat.lt_trichotomy t pl[i] with e | e | e
    · have := hz3 t n' e ht
      rw [Nat.mul_comm] at this
      omega
    · rw [e, hz1] at ht; cases ht; omega
    · have := get_lt (by rw [f.eq]; exact allL_pair _ _) hz1 ht e
      omega
theorem FS.step {row F pl pl' : List Nat} {c m : Nat} (f : FS row F pl c) (h : IsNext row c m) (hlen : pl'.length = pl.length) (hpl : ∀ j p k x : Nat, row[j]? = some p → pl[j]? = some k → F[k]? = some x → pl'[j]? = some (if x * p = m then k + 1 else k)) (hle : ∀ j p k x : Nat, row[j]? = some p → pl[j]? = some k → F[k]? = some x → m ≤ x * p) (g2 : ∀ p ∈ row, 2 ≤ p) : FS row (F ++ [m]) pl' m := by
  have eq : F ++ [m] = allL row m := by rw [allL_next h, f.eq]
  refine ⟨h.made, eq, by rw [hlen, f.len], fun j p k' h1 h2 => ?_⟩
  have hj : j < pl.length := by rw [f.len]; exact (List.getElem?_eq_some_iff.mp h1).1
  obtain ⟨x, e1, e2, e3⟩ := f.ok j p pl[j] h1 (List.getElem?_eq_getElem hj)
  have hp2 := g2 p (List.mem_of_getElem? h1)
  rw [hpl j p pl[j] x h1 (List.getElem?_eq_getElem hj) e1] at h2
  have hkl : pl[j] < F.length := (List.getElem?_eq_some_iff.mp e1).1
  have up : (F ++ [m]).Pairwise (· < ·) := by rw [eq]; exact allL_pair _ _
  have hx1 : (F ++ [m])[pl[j]]? = some x := by rw [List.getElem?_append_left hkl]; exact e1
  have old : ∀ i y, i < pl[j] → (F ++ [m])[i]? = some y → y * p ≤ c := fun i y hi hy => by
    rw [List.getElem?_append_left (by omega)] at hy
    exact e3 i y hi hy
  have hcm := h.gt
  by_cases e : x * p = m
  · rw [if_pos e] at h2
    cases h2
    have hl2 : pl[j] + 1 < (F ++ [m]).length := by simp; omega
    refine ⟨_, List.getElem?_eq_getElem hl2, ?_, fun i y hi hy => ?_⟩
    · have := get_lt up hx1 (List.getElem?_eq_getElem hl2) (by omega)
      have h5 := Nat.mul_lt_mul_of_pos_right this (show 0 < p by omega)
      omega
    · by_cases hi2 : i = pl[j]
      · subst hi2
        rw [hx1] at hy
        cases hy
        omega
      · have := old i y (by omega) hy
        omega
  · rw [if_neg e] at h2
    cases h2
    refine ⟨x, hx1, ?_, fun i y hi hy => ?_⟩
    · have := hle j p pl[j] x h1 (List.getElem?_eq_getElem hj) e1
      omega
    · have := old i y hi hy; omega
theorem FS.flen {row F pl : List Nat} {c : Nat} (f : FS row F pl c) : F.length = cnt row c := by rw [f.eq]; rfl
/-- the so-manieth is no greater than a bound to which there are so many -/
theorem fst_le {row : List Nat} {c m T : Nat} (hc : Mk row c) (h : cnt row c ≤ m) (hm : m ≤ cnt row T) : c ≤ T := by
  rcases Nat.lt_or_ge T c with z | z
  · have := cnt_lt z hc; omega
  · exact z
theorem Fits.lt {row : List Nat} {b : Nat} (f : Fits row b) : b < 2 ^ 70 := by unfold Fits at f; omega
theorem IsAll.sorted {row l : List Nat} {b : Nat} (h : IsAll row b l) {l' : List Nat} (p : l'.Perm l) (s : l'.Pairwise (· ≤ ·)) : l' = allL row b :=
  (h.of_perm p).eq ((s.and (h.of_perm p).1).imp fun {x y} z => by have := z.1; have := z.2; omega)
end MA
set_option Elab.async false
set_option linter.all false
set_option maxRecDepth 100000
set_option maxHeartbeats 4000000
namespace Px
open PySem L2 MA
local macro_rules | `(tactic| bv_omega) => `(tactic| first | assumption | omega | exact cm (by omega) | exact cd (by omega) | exact cp (by omega) | exact trivial)
local macro_rules | `(tactic| array_get_dec) => `(tactic| first
  | assumption
  | exact sq_up
  | exact Own.sqi (by assumption) 0 (by rfl)
  | exact Own.sqi (by assumption) 1 (by rfl)
  | exact Own.sqi (by assumption) 2 (by rfl)
  | exact Own.sqi (by assumption) 3 (by rfl)
  | exact Own.sqi (by assumption) 4 (by rfl)
  | exact Own.sq (by assumption) (by assumption)
  | exact sq_new (by assumption) (by assumption))
local macro_rules | `(tactic| clean_wf) => `(tactic| first
  | with_reducible exact ev_c
  | (with_reducible apply ev_v') <;> rfl
  | (with_reducible apply ev_add) <;> clean_wf
  | (with_reducible apply ev_sub) <;> clean_wf
  | (with_reducible apply ev_mul) <;> clean_wf
  | (with_reducible apply ev_mod) <;> clean_wf
  | (with_reducible apply ev_div) <;> clean_wf
  | (with_reducible apply ev_pow) <;> clean_wf
  | (with_reducible apply ev_neg) <;> clean_wf
  | (with_reducible apply ev_lt) <;> clean_wf
  | (with_reducible apply ev_le) <;> clean_wf
  | (with_reducible apply ev_gt) <;> clean_wf
  | (with_reducible apply ev_ge) <;> clean_wf
  | (with_reducible apply ev_eqi) <;> clean_wf
  | (with_reducible apply ev_nei) <;> clean_wf
  | (with_reducible apply ev_len) <;> clean_wf
  | (with_reducible apply ev_ixL) <;> clean_wf
  | (with_reducible apply ev_min) <;> clean_wf
  | (with_reducible apply ev_max) <;> clean_wf
  | (with_reducible apply ev_abs) <;> clean_wf
  | (with_reducible apply ev_intB) <;> clean_wf
  | (with_reducible apply ea_1) <;> clean_wf
  | (with_reducible apply ea_2) <;> clean_wf
  | (with_reducible apply ea_3) <;> clean_wf
  | with_reducible exact ea_nil
  | (with_reducible apply ea_cons) <;> clean_wf
  | with_reducible exact el_nil
  | (with_reducible apply ep_lt) <;> clean_wf
  | (with_reducible apply ep_le) <;> clean_wf
  | (with_reducible apply ep_gt) <;> clean_wf
  | (with_reducible apply ep_ge) <;> clean_wf
  | (with_reducible apply ep_eqi) <;> clean_wf
  | (with_reducible apply ep_nei) <;> clean_wf
  | (with_reducible apply ep_not) <;> clean_wf
  | ((with_reducible apply ep_and) <;> first | (intro _; clean_wf; done) | clean_wf)
  | ((with_reducible apply ep_or) <;> first | (intro _; clean_wf; done) | clean_wf)
  | (with_reducible apply et_t) <;> clean_wf
  | (with_reducible apply eo_is) <;> clean_wf
  | with_reducible exact eo_no
  | array_get_dec
  | bv_omega
  | rfl
  | skip)
local macro_rules | `(tactic| symm_saturate) => `(tactic| first
  | ((with_reducible apply q_set); (focus (clean_wf; done)))
  | ((with_reducible apply s_set); (focus (clean_wf; done)))
  | ((with_reducible apply q_aug (hx := rfl)); (focus (clean_wf; done)))
  | ((with_reducible apply s_aug (hx := rfl)); (focus (clean_wf; done)))
  | ((with_reducible apply q_augC (hx := rfl)); (focus (clean_wf; done)))
  | ((with_reducible apply s_augC (hx := rfl)); (focus (clean_wf; done))))
local macro_rules | `(tactic| subst_eqs) => `(tactic| repeat' (first
  | with_reducible apply w_c
  | ((with_reducible apply w_v'); (focus rfl))
  | with_reducible apply w_op
  | with_reducible apply w_cb
  | with_reducible apply w_cons
  | with_reducible apply w_nil
  | with_reducible apply r_add
  | with_reducible apply r_sub
  | ((with_reducible apply r_mul); (focus (bv_omega; done)))
  | ((with_reducible apply r_div); (focus (bv_omega; done)))
  | ((with_reducible apply r_mod); (focus (bv_omega; done)))
  | ((with_reducible apply r_pow); (focus (bv_omega; done)))
  | with_reducible apply r_lt
  | with_reducible apply r_le
  | with_reducible apply r_gt
  | with_reducible apply r_ge
  | with_reducible apply r_min
  | with_reducible apply r_max
  | with_reducible apply r_intB
  | ((with_reducible apply r_len); (focus (array_get_dec; done)))
  | with_reducible apply w_callW
  | with_reducible apply q_setW
  | with_reducible apply s_setW
  | with_reducible apply s_retW))

/-! ### comprehensions over zip -/
def LcAt (J : It) (g : TG) (tt : TT) (te : TE) (vs : List Nat) (σ : L2.St) (Q : VK) (H1 : Hp) : Prop := ∀ D, H1 D = none → ∃ W : Nat → Nat → Hp → Prop, (∃ m, W 0 m (upd H1 D (.lst []))) ∧ ∀ i m H, W i m H →
  (J.stop i H ∧ Q (.ref D) H) ∨ (J.go i H ∧ ∃ Nx : Hp → Prop, (∀ H', Nx H' → ∃ m', m' < m ∧ W (i + 1) m' H') ∧ ∀ x H', J.yld i H x H' → g x (wipe σ vs) H' fun σ2 H2 => wipe σ2 vs = wipe σ vs ∧ tt σ2 H2 fun b H3 =>
    if b = true then te σ2 H3 fun y H4 => ∃ acc, H4 D = some (.lst acc) ∧ acc.length < sizeLine ∧ Nx (upd H4 D (.lst (acc ++ [y]))) else Nx H3)
section
variable {K : PySem.W.Frag} {σ : L2.St} {H H1 : Hp} {ta : TA} {tt : TT} {te : TE} {vs : List Nat} {Q : VK} {a b : Addr} {xs ys : List V} {n1 n2 : Nat}
theorem w_lcZ {g : TG} (h : ta σ H fun us H1 => ∃ a b xs ys, us = [.ref a, .ref b] ∧ SqL K H1 a xs ∧ SqL K H1 b ys ∧ LcAt (Itz K a b) g tt te vs σ Q H1) : tLc (iZip K ta) g tt te vs σ H Q := h
theorem lcat_zip (Pv : Addr → Nat → Hp → Prop) (h0 : ∀ D, H1 D = none → Pv D 0 (upd H1 D (.lst []))) (hl : ∀ D i H', H1 D = none → Pv D i H' → SqL K H' a xs ∧ SqL K H' b ys) (hw : ∀ x y, wipe (((wipe σ vs).set n1 (some x)).set n2 (some y)) vs = wipe σ vs)
    (hs : ∀ D i x y T H', H1 D = none → xs[i]? = some x → ys[i]? = some y → Pv D i H' → H' T = none → tt (((wipe σ vs).set n1 (some x)).set n2 (some y)) (upd H' T (.tup [x, y])) fun c H3 =>
      if c = true then te (((wipe σ vs).set n1 (some x)).set n2 (some y)) H3 fun v H4 => ∃ acc, H4 D = some (.lst acc) ∧ acc.length < sizeLine ∧ Pv D (i + 1) (upd H4 D (.lst (acc ++ [v]))) else Pv D (i + 1) H3)
    (hd : ∀ D H', H1 D = none → Pv D (min xs.length ys.length) H' → Q (.ref D) H') : LcAt (Itz K a b) (gTup K 2 (gCons (gName n1) (gCons (gName n2) gNil))) tt te vs σ Q H1 := fun D hD =>
  lc_it (walk_zip (K := K) (a := a) (b := b) (xs := xs) (ys := ys) rfl) (Pv D) (h0 D hD) (fun i H' _ p => hl D i H' hD p) (fun i v H' H'' hi p y => by
    obtain ⟨T, x, y, rfl, hT, rfl, e1, e2⟩ := y
    exact ⟨T, _, rfl, st_at upd_same, rfl, _, _, rfl, _, _, rfl, rfl, hw x y, hs D i x y T H' hD e1 e2 p hT⟩) (fun H' p => hd D H' hD p)
end
section
variable {K : PySem.W.Frag} {σ : L2.St} {H H1 : Hp} {te tl : TE} {tt : TT} {vs : List Nat} {Q : VK} {a b : Addr} {n : Nat} {g : TG}
theorem w_lcLW (h : tl σ H fun x H1 => ∃ a, x = .ref a ∧ (∃ xs, SqL K H1 a xs) ∧ LcAt (Itl K a) g tt te vs σ Q H1) : tLc (iList K tl) g tt te vs σ H Q := h
/-- [te for i in ns], ns a list of ints that stands at a -/
theorem lcat_map {ns : List Int} (f : Int → Int) (hx : SqL K H1 a (ns.map V.int)) (hz : ns.length ≤ 16000000) (hw : ∀ x, wipe ((wipe σ vs).set n (some x)) vs = wipe σ vs)
    (he : ∀ i ∈ ns, ∀ D acc, H1 D = none → Ev te ((wipe σ vs).set n (some (.int i))) (upd H1 D (.lst acc)) (.int (f i))) (q : ∀ D, H1 D = none → Q (.ref D) (upd H1 D (.lst ((ns.map f).map V.int)))) : LcAt (Itl K a) (gName n) tYes te vs σ Q H1 := by
  obtain ⟨_, e, _, z⟩ := el_lcI (K := K) (H := H1) (tl := fun _ H Q => Q (.ref a) H) (t := tYes) (fun _ => true) f (fun _ z => z) hx hz hw (fun i hi D acc hD => et_yes) (fun i hi _ D acc hD => he i hi D acc hD) Q fun D hD => by
    rw [List.filter_eq_self.mpr (fun _ _ => rfl)]
    exact q D hD
  cases e
  exact z
/-- [te for i in ns if p(i)] -/
theorem lcat_filter {ns : List Int} (p : Int → Bool) (f : Int → Int) (hx : SqL K H1 a (ns.map V.int)) (hz : ns.length ≤ 16000000) (hw : ∀ x, wipe ((wipe σ vs).set n (some x)) vs = wipe σ vs)
    (ht : ∀ i ∈ ns, ∀ D acc, H1 D = none → EvT tt ((wipe σ vs).set n (some (.int i))) (upd H1 D (.lst acc)) (p i)) (he : ∀ i ∈ ns, p i = true → ∀ D acc, H1 D = none → Ev te ((wipe σ vs).set n (some (.int i))) (upd H1 D (.lst acc)) (.int (f i))) (q : ∀ D, H1 D = none → Q (.ref D) (upd H1 D (.lst (((ns.filter p).map f).map V.int)))) : LcAt (Itl K a) (gName n) tt te vs σ Q H1 := by
  obtain ⟨_, e, _, z⟩ := el_lcI (K := K) (H := H1) (tl := fun _ H Q => Q (.ref a) H) (t := tt) p f (fun _ z => z) hx hz hw ht he Q q
  cases e
  exact z
end
/-! ### rows -/
def sp_is_whole (K : PySem.W.Frag) : Sp := fun vs H Q _ => Nod H ∧ ∃ i : Int, vs = [.int i] ∧ Q (.bl true) H
/-- slots: thing -/
abbrev n_is_whole : List Str := ["thing"]
def t_is_whole (K : PySem.W.Frag) : TS := (sFg (tRet (tAndV (tCB (rIsi K) (tCons (tVar 0) (tCons (tC (.ty "int")) tNil))) (tNotV (tCB (rIsi K) (tCons (tVar 0) (tCons (tC (.ty "bool")) tNil)))))))
theorem r_is_whole {K : PySem.W.Frag} {vs : List V} {H : Hp} {Q : VK} {E : XK} (h : sp_is_whole K vs H Q E) : t_is_whole K { nx := fun _ H' => Q .non H', rt := Q } (start n_is_whole vs) H := by
  obtain ⟨nd, i, rfl, q⟩ := h
  exact fg_body (s_ret (ev_and (ev_isi (ev_v 0) ev_c (.ty "int") (.base (.int i)) (kit_ty (r := true) (by decide +kernel))) fun _ => ev_not (ev_isi (ev_v 0) ev_c (.ty "bool") (.base (.int i)) (kit_ty (r := false) (by decide +kernel)))) ⟨H, fg_same ex_refl, q⟩)
def sp_is_row (K : PySem.W.Frag) : Sp := fun vs H Q _ => Nod H ∧ ∃ (a : Addr) (row : List Nat), vs = [.ref a] ∧ H a = some (.lst (zv row)) ∧ Rw row ∧ row ≠ [] ∧ Q (.bl true) H
def PrAt (K : PySem.W.Frag) (aP : Addr) : Prop := ∀ H : Hp, SqL K H aP (zv PR)
/-- slots: thing one further -/
abbrev n_is_row : List Str := ["thing", "one", "further"]
def t_is_row (K : PySem.W.Frag) (a_PRIMES : Addr) : TS := (sFg (tSeq (tIfS (tOr (tNot (tB (tCB (rIsi K) (tCons (tVar 0) (tCons (tC (.ty "list")) tNil))))) (tNot (tTest (tChain oLe oLe (tC (.int 1)) (tCB (cLen K) (tCons (tVar 0) tNil)) (tC (.int 6)))))) (tRet (tC (.bl false))) tNext)
  (tSeq (tIfS (bFg (tTest (tOp (rNeD K) (tLc (iList K (tVar 0)) (gName 1) (tOr (tNot (tB (tCall (sp_is_whole K) [] E0 (tCons (tVar 1) tNil)))) (tTest (tOp (rIn K true) (tVar 1) (tC (.ref a_PRIMES))))) (tVar 1) [1]) (tLst tNil)))) (tRet (tC (.bl false))) tNext)
  (tRet (tFg (tOp (rEqD K) (tFg (tLc (iZip K (tCons (tVar 0) (tCons (tSl (rSlL K) (tVar 0) (tPart (tC (.int 1))) tNoPart) tNil))) (gTup K 2 (gCons (gName 1) (gCons (gName 2) gNil))) (tTest (tOp oLe (tVar 2) (tVar 1))) (tC (.int 1)) [1, 2])) (tLst tNil)))))))
theorem inV_iff {l : List Nat} {p : Nat} : inV (.int (p : Int)) (zv l) = decide (p ∈ l) := by
  induction l with
  | nil => rfl
  | cons a l ih =>
    show (eqV (.int (a : Int)) (.int (p : Int)) || inV (.int (p : Int)) (zv l)) = _
    rw [ih]
    have e : eqV (.int (a : Int)) (.int (p : Int)) = decide (a = p) := by
      show decide ((a : Int) = (p : Int)) = _
      exact decide_eq_decide.mpr (by omega)
    rw [e]
    by_cases h : a = p
    · subst h; simp
    · have h' : ¬ p = a := fun z => h z.symm
      simp [h, h']
theorem zv_0 {p : Nat} {r : List Nat} : atI (zv (p :: r)) 0 = some (.int (p : Int)) := zv_at (i := 0) (l := p :: r) (by simp)
theorem zv_flat (l : List Nat) : (zv l).all flatV = true := by
  rw [List.all_eq_true]
  intro x hx
  obtain ⟨i, _, rfl⟩ := mem_int hx
  rfl
theorem cut_fromN (l : List Nat) (k : Nat) : cutV (zv l) (some (k : Int)) none = zv (l.drop k) := by rw [cut_from]; simp
theorem cut_toN (l : List Nat) (k : Nat) : cutV (zv l) none (some (k : Int)) = zv (l.take k) := by rw [cut_to]; simp
theorem get_up {l : List Nat} (h : l.Pairwise (· < ·)) {i x y : Nat} (hi : l[i]? = some x) (hj : (l.drop 1)[i]? = some y) : x < y := by
  rw [List.getElem?_drop] at hj
  exact get_lt h hi hj (by omega)
theorem r_is_row {K : PySem.W.Frag} {aP : Addr} (hP : PrAt K aP) {vs : List V} {H : Hp} {Q : VK} {E : XK} (h : sp_is_row K vs H Q E) : t_is_row K aP { nx := fun _ H' => Q .non H', rt := Q } (start n_is_row vs) H := by
  obtain ⟨nd, a, row, rfl, ha, w, hne, q⟩ := h
  have sa : SqL K H a (zv row) := sq_at ha
  have hl := w.le
  have hl0 : 0 < row.length := List.length_pos_iff.mpr hne
  refine fg_body (q_never (ep_or (ep_not (ep_b (ev_isi (ev_v 0) ev_c (.ty "list") (.base (.lst ha)) (kit_ty (r := true) (by decide +kernel))))) fun _ => ep_not (ep_chain ev_c (ev_len (ev_v 0) sa) rv_0 (fun _ => ev_c) fun _ => rv_0)) (by rw [zv_len]; simp; omega) ?_)
  refine q_when (b := false) (et_eq (et_nonilN (ns := ((zl row).filter fun _ => false).map fun i => i) (el_lcI (fun _ => false) (fun i => i) (ev_v 0) sa (by rw [zl_len]; omega) (fun _ => rfl) (fun i hi D acc hD => ?_) fun i hi z => nomatch z)) (by simp)) (fun z => nomatch z) fun _ => ?_
  · obtain ⟨p, hp, rfl⟩ := List.mem_map.mp hi
    refine ep_no (ep_or (ep_not (ep_b (ev_call (v := .bl true) (ea_1 (ev_v 1)) fun Q q => ⟨inferInstance, _, rfl, q⟩))) fun _ => ep_of (et_t (ev_op (z := .bl false) (ev_v 1) ev_c fun Q q => ⟨aP, zv PR, rfl, .inl (hP _), rfl, zv_flat _, ?_⟩))) (by simp)
    rw [inV_iff, decide_eq_true (w.mem p hp)]
    exact q
  · refine s_ret (v := .bl true) (ev_fg fun Q q => w_op (el_fg (fun Q q => w_lcZ ?_) _ fun p hp => el_nil _ fun p2 hp2 => rv_eqI (ns := []) (ms := []) (sq_new hp2 sq_up) sq_up _ (q _ (ex_upd (none_upd hp2).1 (ex_new hp))))) ⟨H, fg_same ex_refl, q⟩
    refine w_cons (w_v 0 (w_one (w_evL (el_sl (ev_v 0) (eo_is ev_c) eo_no sa) fun p1 hp1 => ?_)))
    have o : Own H [(p1, zv (row.drop 1))] (upd H p1 (.lst (cutV (zv row) (some 1) none))) := by rw [show (1 : Int) = ((1 : Nat) : Int) from rfl, cut_fromN]; exact Own.nil.new hp1
    refine ⟨a, p1, zv row, zv (row.drop 1), rfl, o.sq sa, o.sqi 0 rfl, lcat_zip (fun D i H' => Own H [(D, []), (p1, zv (row.drop 1))] H') (fun D hD => o.new hD) (fun D i H' hD o => ⟨o.sq sa, o.sqi 1 rfl⟩) (fun x y => rfl) (fun D i x y T H' hD hx hy o hT => ?_) fun D H' hD o => q D H' (o.offI 0 rfl) o.ex (o.atI 0 rfl)⟩
    simp only [List.getElem?_map] at hx hy
    cases e1 : row[i]? with
    | none => rw [e1] at hx; cases hx
    | some x' =>
      cases e2 : (row.drop 1)[i]? with
      | none => rw [e2] at hy; cases hy
      | some y' =>
        rw [e1] at hx
        rw [e2] at hy
        cases hx
        cases hy
        have := get_up w.up e1 e2
        exact ep_no (ep_le (i := (y' : Int)) (j := (x' : Int)) (ev_v 2) (ev_v 1)) (by omega) _ (iteF (o.tup hT))
def sp_need_row (K : PySem.W.Frag) : Sp := fun vs H Q _ => Nod H ∧ ∃ (a : Addr) (row : List Nat), vs = [.ref a] ∧ H a = some (.lst (zv row)) ∧ Rw row ∧ row ≠ [] ∧ Q .non H
/-- slots: row -/
abbrev n_need_row : List Str := ["row"]
def t_need_row (K : PySem.W.Frag) : TS := (sFg (tIfS (tNot (tB (tCall (sp_is_row K) [] E0 (tCons (tVar 0) tNil)))) tNever tNext))
theorem r_need_row {K : PySem.W.Frag} {vs : List V} {H : Hp} {Q : VK} {E : XK} (h : sp_need_row K vs H Q E) : t_need_row K { nx := fun _ H' => Q .non H', rt := Q } (start n_need_row vs) H := by
  obtain ⟨nd, a, row, rfl, ha, w, hne, q⟩ := h
  exact fg_body (s_whenP (ep_not (ep_b (ev_call (v := .bl true) (ea_1 (ev_v 0)) fun Q q => ⟨nd, a, row, rfl, ha, w, hne, q⟩))) (fun z => absurd rfl z) fun _ => ⟨H, fg_same ex_refl, q⟩)
/-! ### made, not made -/
def sp_is_made (K : PySem.W.Frag) : Sp := fun vs H Q _ => Nod H ∧ ∃ (a : Addr) (row : List Nat) (n : Nat), vs = [.ref a, .int (n : Int)] ∧ SqL K H a (zv row) ∧ Rw row ∧ 0 < n ∧ Q (.bl (decide (stripAll row n = 1))) H
/-- slots: row number prime -/
abbrev n_is_made : List Str := ["row", "number", "prime"]
def t_is_made (K : PySem.W.Frag) : TS := (sFg (tSeq (tFor (iList K (tVar 0)) (gName 2) (tWhile (tTest (tOp rEq (tOp oMod (tVar 1) (tVar 2)) (tC (.int 0)))) (tAug 1 (tVar 2) (ipC CDivW fun i j => i / j))))
  (tRet (tOp rEq (tVar 1) (tC (.int 1))))))
theorem r_is_made {K : PySem.W.Frag} {vs : List V} {H : Hp} {Q : VK} {E : XK} (h : sp_is_made K vs H Q E) : t_is_made K { nx := fun _ H' => Q .non H', rt := Q } (start n_is_made vs) H := by
  obtain ⟨nd, a, row, n, rfl, ha, w, hn, q⟩ := h
  refine fg_body (q_forI (ev_v 0) ha (fun i σ' H' => ∃ (k : Nat) (y : Option V), σ' = [some (.ref a), some (.int k), y] ∧ H' = H ∧ 0 < k ∧ stripAll (row.drop i) k = stripAll row n) ⟨n, none, rfl, rfl, hn, rfl⟩ (fun i σ' H' _ hv => ?_) (fun i x σ' H' hx hv => ?_) (fun σ' H' hv => ?_))
  · obtain ⟨k, y, _, rfl, _⟩ := hv
    exact ha
  · obtain ⟨k, y, rfl, rfl, hk, he⟩ := hv
    rw [List.getElem?_map] at hx
    cases e : row[i]? with
    | none => rw [e] at hx; cases hx
    | some p =>
      rw [e] at hx
      cases hx
      have hlt := (List.getElem?_eq_some_iff.mp e).1
      have hp := w.ge (List.mem_of_getElem? e)
      have hdr : row.drop i = p :: row.drop (i + 1) := by
        rw [List.drop_eq_getElem_cons hlt]
        congr 1
        exact (List.getElem?_eq_some_iff.mp e).2
      rw [hdr] at he
      refine s_whileP (fun m σ' H'' => ∃ j : Nat, σ' = [some (.ref a), some (.int j), some (.int p)] ∧ H'' = H' ∧ j = m ∧ 0 < j ∧ strip p j = strip p k) k ⟨k, rfl, rfl, rfl, hk, rfl⟩ (fun m σ' H'' hw => ?_)
      obtain ⟨j, rfl, rfl, rfl, hj, hs⟩ := hw
      refine ⟨_, ep_eqi (ev_mod (ev_v 1) (ev_v 2) (by omega)) ev_c, fun hb => ?_, fun hb => ?_⟩
      · have hm : j % p = 0 := by omega
        have hdl : j / p < j := Nat.div_lt_self hj (by omega)
        refine s_augC (a := (j : Int)) (b := (p : Int)) (ev_v 2) ⟨j / p, hdl, j / p, by simp, rfl, rfl, ?_, ?_⟩ (cd (by omega))
        · exact Nat.div_pos (Nat.le_of_dvd hj (Nat.dvd_of_mod_eq_zero hm)) (by omega)
        · rw [← hs, strip_yes (by omega) hj hm]
      · have hm : j % p ≠ 0 := by omega
        rw [strip_no hm] at hs
        refine ⟨j, some (.int p), rfl, rfl, hj, ?_⟩
        rw [hs]
        exact he
  · obtain ⟨k, y, rfl, rfl, hk, he⟩ := hv
    rw [zl_len, List.drop_length] at he
    refine s_ret (ev_eqi (ev_v 1) ev_c) ⟨_, fg_same ex_refl, ?_⟩
    have : decide ((k : Int) = 1) = decide (stripAll row n = 1) := by
      rw [← he]
      exact decide_eq_decide.mpr ⟨fun z => by have : k = 1 := by omega
                                              exact this, fun z => by have : k = 1 := z
                                                                      omega⟩
    rw [this]
    exact q
open Classical in
def sp_is_made_of (K : PySem.W.Frag) : Sp := fun vs H Q _ => Nod H ∧ ∃ (a : Addr) (row : List Nat) (n : Nat), vs = [.ref a, .int (n : Int)] ∧ H a = some (.lst (zv row)) ∧ Rw row ∧ row ≠ [] ∧ Q (.bl (decide (0 < n ∧ Mk row n))) H
/-- slots: row thing -/
abbrev n_is_made_of : List Str := ["row", "thing"]
def t_is_made_of (K : PySem.W.Frag) : TS := (sFg (tSeq (tDrop (tCall (sp_need_row K) [] E0 (tCons (tVar 0) tNil)))
  (tRet (tAndV (tCall (sp_is_whole K) [] E0 (tCons (tVar 1) tNil)) (tAndV (tOp oGt (tVar 1) (tC (.int 0))) (tCall (sp_is_made K) [] E0 (tCons (tVar 0) (tCons (tVar 1) tNil))))))))
theorem r_is_made_of {K : PySem.W.Frag} {vs : List V} {H : Hp} {Q : VK} {E : XK} (h : sp_is_made_of K vs H Q E) : t_is_made_of K { nx := fun _ H' => Q .non H', rt := Q } (start n_is_made_of vs) H := by
  obtain ⟨nd, a, row, n, rfl, ha, w, hne, q⟩ := h
  refine fg_body (q_drop (ev_call (v := .non) (ea_1 (ev_v 0)) (fun Q q => ⟨nd, a, row, rfl, ha, w, hne, q⟩) _ ?_))
  refine s_ret (ev_eq (ev_and (ev_call (v := .bl true) (ea_1 (ev_v 1)) fun Q q => ⟨nd, _, rfl, q⟩) fun _ => ev_and (b := decide (stripAll row n = 1)) (ev_gt (ev_v 1) ev_c) fun hb => ev_call (ea_2 (ev_v 0) (ev_v 1)) fun Q q => ⟨nd, a, row, n, rfl, sq_at ha, w, ?_, q⟩) ?_) ⟨H, fg_same ex_refl, q⟩
  · have := of_decide_eq_true hb; omega
  · congr 1
    by_cases h0 : 0 < n
    · have e := stripAll_iff w.good h0
      by_cases hm : Mk row n
      · simp [h0, hm, e.mpr hm]
      · have : ¬ stripAll row n = 1 := fun z => hm (e.mp z)
        simp [hm, this]
    · have h00 : n = 0 := by omega
      subst h00
      simp
end Px
set_option Elab.async false
set_option linter.all false
set_option maxRecDepth 100000
set_option maxHeartbeats 4000000
namespace Px
open PySem L2 MA
local macro_rules | `(tactic| bv_omega) => `(tactic| first | assumption | omega | exact cm (by omega) | exact cd (by omega) | exact cp (by omega) | exact trivial)
local macro_rules | `(tactic| array_get_dec) => `(tactic| first
  | assumption
  | exact sq_up
  | exact Own.sqi (by assumption) 0 (by rfl)
  | exact Own.sqi (by assumption) 1 (by rfl)
  | exact Own.sqi (by assumption) 2 (by rfl)
  | exact Own.sqi (by assumption) 3 (by rfl)
  | exact Own.sqi (by assumption) 4 (by rfl)
  | exact Own.sq (by assumption) (by assumption)
  | exact sq_new (by assumption) (by assumption))
local macro_rules | `(tactic| clean_wf) => `(tactic| first
  | with_reducible exact ev_c
  | (with_reducible apply ev_v') <;> rfl
  | (with_reducible apply ev_add) <;> clean_wf
  | (with_reducible apply ev_sub) <;> clean_wf
  | (with_reducible apply ev_mul) <;> clean_wf
  | (with_reducible apply ev_mod) <;> clean_wf
  | (with_reducible apply ev_div) <;> clean_wf
  | (with_reducible apply ev_pow) <;> clean_wf
  | (with_reducible apply ev_neg) <;> clean_wf
  | (with_reducible apply ev_lt) <;> clean_wf
  | (with_reducible apply ev_le) <;> clean_wf
  | (with_reducible apply ev_gt) <;> clean_wf
  | (with_reducible apply ev_ge) <;> clean_wf
  | (with_reducible apply ev_eqi) <;> clean_wf
  | (with_reducible apply ev_nei) <;> clean_wf
  | (with_reducible apply ev_len) <;> clean_wf
  | (with_reducible apply ev_ixL) <;> clean_wf
  | (with_reducible apply ev_min) <;> clean_wf
  | (with_reducible apply ev_max) <;> clean_wf
  | (with_reducible apply ev_abs) <;> clean_wf
  | (with_reducible apply ev_intB) <;> clean_wf
  | (with_reducible apply ea_1) <;> clean_wf
  | (with_reducible apply ea_2) <;> clean_wf
  | (with_reducible apply ea_3) <;> clean_wf
  | with_reducible exact ea_nil
  | (with_reducible apply ea_cons) <;> clean_wf
  | with_reducible exact el_nil
  | (with_reducible apply ep_lt) <;> clean_wf
  | (with_reducible apply ep_le) <;> clean_wf
  | (with_reducible apply ep_gt) <;> clean_wf
  | (with_reducible apply ep_ge) <;> clean_wf
  | (with_reducible apply ep_eqi) <;> clean_wf
  | (with_reducible apply ep_nei) <;> clean_wf
  | (with_reducible apply ep_not) <;> clean_wf
  | ((with_reducible apply ep_and) <;> first | (intro _; clean_wf; done) | clean_wf)
  | ((with_reducible apply ep_or) <;> first | (intro _; clean_wf; done) | clean_wf)
  | (with_reducible apply et_t) <;> clean_wf
  | (with_reducible apply eo_is) <;> clean_wf
  | with_reducible exact eo_no
  | array_get_dec
  | bv_omega
  | rfl
  | skip)
local macro_rules | `(tactic| symm_saturate) => `(tactic| first
  | ((with_reducible apply q_set); (focus (clean_wf; done)))
  | ((with_reducible apply s_set); (focus (clean_wf; done)))
  | ((with_reducible apply q_aug (hx := rfl)); (focus (clean_wf; done)))
  | ((with_reducible apply s_aug (hx := rfl)); (focus (clean_wf; done)))
  | ((with_reducible apply q_augC (hx := rfl)); (focus (clean_wf; done)))
  | ((with_reducible apply s_augC (hx := rfl)); (focus (clean_wf; done))))
local macro_rules | `(tactic| subst_eqs) => `(tactic| repeat' (first
  | with_reducible apply w_c
  | ((with_reducible apply w_v'); (focus rfl))
  | with_reducible apply w_op
  | with_reducible apply w_cb
  | with_reducible apply w_cons
  | with_reducible apply w_nil
  | with_reducible apply r_add
  | with_reducible apply r_sub
  | ((with_reducible apply r_mul); (focus (bv_omega; done)))
  | ((with_reducible apply r_div); (focus (bv_omega; done)))
  | ((with_reducible apply r_mod); (focus (bv_omega; done)))
  | ((with_reducible apply r_pow); (focus (bv_omega; done)))
  | with_reducible apply r_lt
  | with_reducible apply r_le
  | with_reducible apply r_gt
  | with_reducible apply r_ge
  | with_reducible apply r_min
  | with_reducible apply r_max
  | with_reducible apply r_intB
  | ((with_reducible apply r_len); (focus (array_get_dec; done)))
  | with_reducible apply w_callW
  | with_reducible apply q_setW
  | with_reducible apply s_setW
  | with_reducible apply s_retW))

/-! ### all to a bound, in any order -/
def sp_made_to (K : PySem.W.Frag) : Sp := fun vs H Q _ => Nod H ∧ ∃ (a : Addr) (row : List Nat) (b : Nat), vs = [.ref a, .int (b : Int)] ∧ H a = some (.lst (zv row)) ∧ Rw row ∧ Fits row b ∧
  ∀ (p : Addr) (l : List Nat), H p = none → IsAll row b l → Q (.ref p) (upd H p (.lst (zv l)))
/-- slots: row bound found prime at -/
abbrev n_made_to : List Str := ["row", "bound", "found", "prime", "at"]
def t_made_to (K : PySem.W.Frag) : TS := (sFg (tSeq (tAsg (tFg (tOp rRep (tLst (tCons (tC (.int 1)) tNil)) (tCB cInt (tCons (tOp oGt (tVar 1) (tC (.int 0))) tNil)))) (gName 2))
  (tSeq (tFor (iList K (tVar 0)) (gName 3) (tSeq (tAsg (tC (.int 0)) (gName 4))
  (tWhile (tTest (tOp oLt (tVar 4) (tCB (cLen K) (tCons (tVar 2) tNil)))) (tSeq (tIfS (tTest (tOp oLe (tOp oMul (tOp (rIxL K) (tVar 2) (tVar 4)) (tVar 3)) (tVar 1))) (tDrop (tBM K "list" rAppend (tVar 2) (tCons (tOp oMul (tOp (rIxL K) (tVar 2) (tVar 4)) (tVar 3)) tNil))) tNext)
  (tAug 4 (tC (.int 1)) (ipI fun i j => i + j))))))
  (tRet (tVar 2)))))
theorem zv_one (b : Nat) (F : List Nat) : (zv F) ++ [V.int (b : Int)] = zv (F ++ [b]) := by simp
theorem s_appN {K : PySem.W.Frag} {σ : L2.St} {H : Hp} {ta te : TE} {l : Addr} {F : List Nat} {x : Nat} {D : Ends} (hz : F.length < 16000000) (ha : Ev ta σ (upd H l (.lst (zv F))) (.ref l)) (h : Ev te σ (upd H l (.lst (zv F))) (.int (x : Int))) (k : D.nx σ (upd H l (.lst (zv (F ++ [x]))))) : tDrop (tBM K "list" rAppend ta (tCons te tNil)) D σ (upd H l (.lst (zv F))) :=
  s_app upd_same (by rw [zv_len]; exact szl hz) ha h (by rw [upd_upd, zv_one]; exact k)
theorem r_made_to {K : PySem.W.Frag} {vs : List V} {H : Hp} {Q : VK} {E : XK} (h : sp_made_to K vs H Q E) : t_made_to K { nx := fun _ H' => Q .non H', rt := Q } (start n_made_to vs) H := by
  obtain ⟨nd, a, row, b, rfl, ha, w, f, q⟩ := h
  have g := w.good
  have hfit := w.fit f
  have hb := f.lt
  refine fg_body (q_setL (xs := zv (if 0 < b then [1] else [])) (el_fg fun Q q => w_op (w_evL (el_lst (ea_1 ev_c) (by simp)) fun p1 hp1 => ?_)) fun p hp => ?_)
  · refine w_cb (w_one (w_op (w_v 1 (w_c (r_gt (r_intB (w_rep1 (k := 1) upd_same fun p2 hp2 => ?_)))))))
    obtain ⟨h1, h2⟩ := none_upd hp2
    refine q p2 _ h1 (ex_upd h1 (ex_new hp1)) ?_
    rw [upd_same]
    by_cases h0 : 0 < b
    · simp [h0]
    · have : b = 0 := by omega
      subst this; simp
  have hap : a ≠ p := ne_of_none ha hp
  have sa : ∀ o, SqL K (upd H p o) a (zv row) := fun o => sq_at (by rw [upd_ne hap]; exact ha)
  refine q_forI (ns := zl row) (ev_v 0) (sa _) (fun i σ' H' => ∃ (F : List Nat) (y3 y4 : Option V), σ' = [some (.ref a), some (.int b), some (.ref p), y3, y4] ∧ H' = upd H p (.lst (zv F)) ∧ IsAll (row.take i) b F) ⟨_, none, none, rfl, rfl, ?_⟩ (fun i σ' H' _ hv => ?_) (fun i x σ' H' hx hv => ?_) (fun σ' H' hv => ?_)
  · rw [List.take_zero]
    by_cases h0 : 0 < b
    · rw [if_pos h0]; exact all_nil h0
    · rw [if_neg h0, show b = 0 by omega]; exact all_zero fun _ h => (List.not_mem_nil h).elim
  · obtain ⟨F, y3, y4, _, rfl, _⟩ := hv
    exact sa _
  · obtain ⟨L, y3, y4, rfl, rfl, hL⟩ := hv
    rw [List.getElem?_map] at hx
    cases e : row[i]? with
    | none => rw [e] at hx; cases hx
    | some pr =>
      rw [e] at hx
      cases hx
      have gd := take_good g e
      have hp2 := w.ge (List.mem_of_getElem? e)
      have hcap : cnt (pr :: row.take i) b ≤ 9000000 := Nat.le_trans (take_cnt e) hfit
      refine q_set ev_c (s_whileP (fun m σ' H' => ∃ (F : List Nat) (k : Nat), σ' = [some (.ref a), some (.int b), some (.ref p), some (.int (pr : Int)), some (.int (k : Int))] ∧ H' = upd H p (.lst (zv F)) ∧ m = 9000000 - k ∧ k ≤ F.length ∧ Gr (row.take i) L pr b F k) 9000000 ⟨L, 0, rfl, rfl, rfl, by omega, .start hL⟩ (fun m σ' H' hw => ?_))
      obtain ⟨F, k, rfl, rfl, rfl, hk, G⟩ := hw
      have hF := G.len
      refine ⟨_, ep_lt (ev_v 4) (ev_len (ev_v 2) sq_up), fun hc => ?_, fun hc => ?_⟩
      · rw [zv_len] at hc
        have hk2 : k < F.length := by omega
        have hgk := List.getElem?_eq_getElem hk2
        have hx := G.made _ (List.getElem_mem hk2)
        have at_ := zv_at hk2
        generalize F[k] = x at hgk hx at_
        have hxp : (x : Int) * (pr : Int) = ((x * pr : Nat) : Int) := by simp
        refine q_whenI (fun σ' H' => ∃ F' : List Nat, σ' = [some (.ref a), some (.int b), some (.ref p), some (.int (pr : Int)), some (.int (k : Int))] ∧ H' = upd H p (.lst (zv F')) ∧ k < F'.length ∧ Gr (row.take i) L pr b F' (k + 1)) (ep_le (ev_mul (ev_ixL (ev_v 2) (ev_v 4) sq_up at_) (ev_v 3) (cm (by omega))) (ev_v 1)) (fun hle N hN => ?_) (fun hle => ⟨F, rfl, rfl, hk2, G.stay hgk (by omega)⟩) fun σ' H' hI => ?_
        · refine s_appN (x := x * pr) (by omega) (ev_v 2) (ev_eq (ev_mul (ev_ixL (ev_v 2) (ev_v 4) sq_up at_) (ev_v 3) (cm (by omega))) (by rw [hxp])) (hN _ _ ⟨_, rfl, rfl, by simp; omega, G.grow gd hL hgk (by omega)⟩)
        · obtain ⟨F', rfl, rfl, hk', G'⟩ := hI
          have := G'.len
          exact s_aug (a := (k : Int)) ev_c ⟨9000000 - (k + 1), by omega, F', k + 1, rfl, rfl, rfl, by omega, G'⟩
      · rw [zv_len] at hc
        have hkl : k = F.length := by omega
        subst hkl
        exact ⟨F, _, _, rfl, rfl, take_all e (G.fin gd hL)⟩
  · obtain ⟨F, y3, y4, rfl, rfl, hF⟩ := hv
    rw [zl_len, List.take_length] at hF
    exact s_ret (ev_v 2) ⟨_, fg_newL hp (ex_new hp) upd_same, q p F hp hF⟩
/-! ### in order -/
def sp_all_to (K : PySem.W.Frag) : Sp := fun vs H Q _ => Nod H ∧ ∃ (a : Addr) (row : List Nat) (b : Nat), vs = [.ref a, .int (b : Int)] ∧ H a = some (.lst (zv row)) ∧ Rw row ∧ row ≠ [] ∧ Fits row b ∧
  ∀ (p : Addr), H p = none → Q (.ref p) (upd H p (.lst (zv (allL row b))))
/-- slots: row bound -/
abbrev n_all_to : List Str := ["row", "bound"]
def t_all_to (K : PySem.W.Frag) : TS := (sFg (tSeq (tDrop (tCall (sp_need_row K) [] E0 (tCons (tVar 0) tNil)))
  (tRet (tFg (tCB (rSortedI K) (tCons (tCall (sp_made_to K) [] E0 (tCons (tVar 0) (tCons (tVar 1) tNil))) tNil))))))
theorem need {K : PySem.W.Frag} {σ : L2.St} {H : Hp} {D : Ends} {s2 : TS} {a : Addr} {row : List Nat} [nd : Nod H] (h0 : σ[0]? = some (some (.ref a))) (ha : H a = some (.lst (zv row))) (w : Rw row) (hne : row ≠ []) (k : s2 D σ H) : tSeq (tDrop (tCall (sp_need_row K) [] E0 (tCons (tVar 0) tNil))) s2 D σ H :=
  q_drop (ev_call (v := .non) (ea_1 (ev_v' h0)) (fun Q q => ⟨nd, a, row, rfl, ha, w, hne, q⟩) _ k)
theorem r_all_to {K : PySem.W.Frag} {vs : List V} {H : Hp} {Q : VK} {E : XK} (h : sp_all_to K vs H Q E) : t_all_to K { nx := fun _ H' => Q .non H', rt := Q } (start n_all_to vs) H := by
  obtain ⟨nd, a, row, b, rfl, ha, w, hne, f, q⟩ := h
  refine fg_body (need rfl ha w hne (s_retL (el_fg fun Q q => w_cb (w_one (w_call (ea_2 (ev_v 0) (ev_v 1)) ⟨nd, a, row, b, rfl, ha, w, f, fun p l hp hl => r_sortN sq_up fun l' p2 h1 h2 hp2 => ?_⟩))) fun p hp => ⟨_, fg_newL hp (ex_new hp) upd_same, q p hp⟩))
  obtain ⟨h3, h4⟩ := none_upd hp2
  rw [hl.sorted h1 h2]
  exact q p2 _ h3 (ex_upd h3 (ex_new hp)) upd_same
/-! ### grown -/
def sp_grown (K : PySem.W.Frag) : Sp := fun vs H Q _ => Nod H ∧ ∃ (x p b : Nat), vs = [.int (x : Int), .int (p : Int), .int (b : Int)] ∧ 0 < x ∧ x < 2 ^ 100 ∧ 2 ≤ p ∧ p ≤ 97 ∧ b < 2 ^ 100 ∧ ∀ y, Gn p b x y → Q (.int (y : Int)) H
/-- slots: number prime bound -/
abbrev n_grown : List Str := ["number", "prime", "bound"]
def t_grown (K : PySem.W.Frag) : TS := (sFg (tSeq (tWhile (tTest (tOp oLe (tOp oMul (tVar 0) (tVar 1)) (tVar 2))) (tAug 0 (tVar 1) (ipC CMulW fun i j => i * j)))
  (tRet (tVar 0))))
theorem r_grown {K : PySem.W.Frag} {vs : List V} {H : Hp} {Q : VK} {E : XK} (h : sp_grown K vs H Q E) : t_grown K { nx := fun _ H' => Q .non H', rt := Q } (start n_grown vs) H := by
  obtain ⟨nd, x, p, b, rfl, hx, hx2, hp, hp2, hb, q⟩ := h
  refine fg_body (q_whileP (fun m σ' H' => ∃ (y : Nat), σ' = [some (.int (y : Int)), some (.int (p : Int)), some (.int (b : Int))] ∧ H' = H ∧ m = 2 ^ 100 - y ∧ 0 < y ∧ y < 2 ^ 100 ∧ (∃ k, y = x * p ^ k) ∧ (x ≤ b → y ≤ b)) (2 ^ 100 - x) ⟨x, rfl, rfl, rfl, hx, hx2, ⟨0, by simp⟩, fun h => h⟩ (fun m σ' H' hw => ?_))
  obtain ⟨y, rfl, rfl, rfl, hy, hy2, ⟨k, hk⟩, hle⟩ := hw
  have hyp : (y : Int) * (p : Int) = ((y * p : Nat) : Int) := by simp
  have h2 : y * 2 ≤ y * p := Nat.mul_le_mul_left y hp
  refine ⟨_, ep_le (ev_mul (ev_v 0) (ev_v 1) (cm (by omega))) (ev_v 2), fun hc => ?_, fun hc => ?_⟩
  · rw [hyp] at hc
    exact s_augC (a := (y : Int)) (b := (p : Int)) (ev_v 1) ⟨2 ^ 100 - y * p, by omega, y * p, by rw [hyp]; rfl, rfl, rfl, by omega, by omega, ⟨k + 1, by rw [hk, Nat.pow_succ, Nat.mul_assoc]⟩, fun _ => by omega⟩ (cm (by omega))
  · rw [hyp] at hc
    exact s_ret (ev_v 0) ⟨_, fg_same ex_refl, q y ⟨⟨k, hk⟩, by omega, hle⟩⟩
/-! ### counted -/
def sp_how_often (K : PySem.W.Frag) : Sp := fun vs H Q _ => Nod H ∧ ∃ (p b : Nat), vs = [.int (p : Int), .int (b : Int)] ∧ 2 ≤ p ∧ p ≤ 97 ∧ b < 2 ^ 100 ∧ Q (.int ((pwl p b 1).length : Int)) H
/-- slots: prime bound found power -/
abbrev n_how_often : List Str := ["prime", "bound", "found", "power"]
def t_how_often (K : PySem.W.Frag) : TS := (sFg (tSeq (tAsg (tC (.int 0)) (gName 2))
  (tSeq (tAsg (tC (.int 1)) (gName 3))
  (tSeq (tWhile (tTest (tOp oLe (tVar 3) (tVar 1))) (tSeq (tAug 2 (tC (.int 1)) (ipI fun i j => i + j))
  (tAug 3 (tVar 0) (ipC CMulW fun i j => i * j))))
  (tRet (tVar 2))))))
theorem r_how_often {K : PySem.W.Frag} {vs : List V} {H : Hp} {Q : VK} {E : XK} (h : sp_how_often K vs H Q E) : t_how_often K { nx := fun _ H' => Q .non H', rt := Q } (start n_how_often vs) H := by
  obtain ⟨nd, p, b, rfl, hp, hp2, hb, q⟩ := h
  refine fg_body (q_set ev_c (q_set ev_c (q_whileP (fun m σ' H' => ∃ (k y : Nat), σ' = [some (.int (p : Int)), some (.int (b : Int)), some (.int (k : Int)), some (.int (y : Int))] ∧ H' = H ∧ m = 2 ^ 110 - y ∧ 0 < y ∧ y < 2 ^ 110 ∧ k + (pwl p b y).length = (pwl p b 1).length) (2 ^ 110 - 1) ⟨0, 1, rfl, rfl, rfl, by omega, by omega, by omega⟩ (fun m σ' H' hw => ?_))))
  obtain ⟨k, y, rfl, rfl, rfl, hy, hy2, he⟩ := hw
  have hyp : (y : Int) * (p : Int) = ((y * p : Nat) : Int) := by simp
  have h2 : y * 2 ≤ y * p := Nat.mul_le_mul_left y hp
  refine ⟨_, ep_le (ev_v 3) (ev_v 1), fun hc => ?_, fun hc => ?_⟩
  · have hyb : y ≤ b := by omega
    have h3 : y * p ≤ 2 ^ 100 * 97 := Nat.mul_le_mul (by omega) hp2
    rw [pwl_yes hp hy hyb, List.length_cons] at he
    refine q_aug (a := (k : Int)) ev_c (s_augC (a := (y : Int)) (b := (p : Int)) (ev_v 0) ⟨2 ^ 110 - y * p, by omega, k + 1, y * p, ?_, rfl, rfl, by omega, by omega, by omega⟩ (cm (by omega)))
    rw [hyp]; rfl
  · rw [pwl_no (by omega), List.length_nil] at he
    have e : k = (pwl p b 1).length := by omega
    rw [← e] at q
    exact s_ret (ev_v 2) ⟨_, fg_same ex_refl, q⟩
def sp_many_to (K : PySem.W.Frag) : Sp := fun vs H Q _ => Nod H ∧ ∃ (a : Addr) (row : List Nat) (b : Nat), vs = [.ref a, .int (b : Int)] ∧ H a = some (.lst (zv row)) ∧ Rw row ∧ row ≠ [] ∧ Fits row b ∧ Q (.int (cnt row b : Int)) H
/-- slots: row bound rest -/
abbrev n_many_to : List Str := ["row", "bound", "rest"]
def t_many_to (K : PySem.W.Frag) : TS := (sFg (tSeq (tDrop (tCall (sp_need_row K) [] E0 (tCons (tVar 0) tNil)))
  (tRet (tFg (tCB (rSum K) (tCons (tFg (tLc (iList K (tFg (tCall (sp_made_to K) [] E0 (tCons (tSl (rSlL K) (tVar 0) (tPart (tC (.int 1))) tNoPart) (tCons (tVar 1) tNil))))) (gName 2) tYes (tCall (sp_how_often K) [] E0 (tCons (tOp (rIxL K) (tVar 0) (tC (.int 0))) (tCons (tOp oDiv (tVar 1) (tVar 2)) tNil))) [2])) tNil))))))
/-- made_to(row[1:], b) -/
theorem el_rest {K : PySem.W.Frag} {σ : L2.St} {H : Hp} [nd : Nod H] {te : TE} {a : Addr} {p b : Nat} {r : List Nat} (h0 : σ[0]? = some (some (.ref a))) (ha : H a = some (.lst (zv (p :: r)))) (w : Rw (p :: r)) (f : Fits r b) (hb : ∀ H1, Ev te σ H1 (.int (b : Int))) {Q : VK} (q : ∀ l q, IsAll r b l → H q = none → Q (.ref q) (upd H q (.lst (zv l)))) :
    tFg (tCall (sp_made_to K) [] E0 (tCons (tSl (rSlL K) (tVar 0) (tPart (tC (.int 1))) tNoPart) (tCons te tNil))) σ H Q := by
  refine w_callW (w_cons (w_evL (el_sl (ev_v' h0) (eo_is ev_c) eo_no (sq_at ha)) fun p1 hp1 => w_one (w_ev (hb _) ?_)))
  rw [show (1 : Int) = ((1 : Nat) : Int) from rfl, cut_fromN]
  refine ⟨inferInstance, p1, r, b, rfl, upd_same, w.tail, f, fun p2 l hp2 hl => ?_⟩
  obtain ⟨h1, h2⟩ := none_upd hp2
  exact ⟨_, fg_newL h1 (ex_upd h1 (ex_new hp1)) upd_same, q l p2 hl h1⟩
theorem sum_zl {f : Nat → Nat} (l : List Nat) : (((zl l).map fun i : Int => (f i.toNat : Int)).sum) = ((l.map f).sum : Nat) := by
  induction l with
  | nil => rfl
  | cons a l ih =>
    simp only [zl, List.map_cons, List.sum_cons] at ih ⊢
    rw [ih]
    simp
theorem r_many_to {K : PySem.W.Frag} {vs : List V} {H : Hp} {Q : VK} {E : XK} (h : sp_many_to K vs H Q E) : t_many_to K { nx := fun _ H' => Q .non H', rt := Q } (start n_many_to vs) H := by
  obtain ⟨nd, a, row, b, rfl, ha, w, hne, f, q⟩ := h
  obtain ⟨p, r, rfl⟩ := List.exists_cons_of_ne_nil hne
  have f' : Fits r b := f.sub (by simp)
  have hp := w.ge List.mem_cons_self
  have hb := f.lt
  refine fg_body (need rfl ha w hne (s_ret (v := .int (cnt (p :: r) b : Int)) (ev_fg fun Q q => w_cb (w_one ?_)) ⟨H, fg_same ex_refl, q⟩))
  refine w_fg (w_lcLW (el_rest rfl ha w f' (fun H1 => ev_v 1) fun l p1 hl hp1 => ⟨p1, rfl, ⟨_, sq_up⟩, lcat_map (fun i => ((pwl p (b / i.toNat) 1).length : Int)) sq_up ?_ (fun _ => rfl) (fun i hi D acc hD => ?_) fun D hD => ?_⟩))
  · rw [zl_len, hl.len]
    exact Nat.le_trans (w.tail.fit f') (by omega)
  · obtain ⟨x, hx, rfl⟩ := List.mem_map.mp hi
    have hx0 := mk_pos w.tail.good.ge ((hl.2 x).mp hx).1
    obtain ⟨hD1, hD2⟩ := none_upd hD
    have hxb := ((hl.2 x).mp hx).2
    have hdb : b / x ≤ b := Nat.div_le_self _ _
    have hap : a ≠ p1 := ne_of_none ha hp1
    have haD : a ≠ D := ne_of_none ha hD1
    refine ev_call (ea_2 (ev_ixL (i := 0) (v := .int (p : Int)) (ev_v 0) ev_c (sq_at (by rw [upd_ne haD, upd_ne hap]; exact ha)) zv_0) (ev_eq (ev_div (ev_v 1) (ev_v 2) (cd (by omega))) (show V.int ((b : Int) / (x : Int)) = .int ((b / x : Nat) : Int) by simp))) fun Q q => ⟨inferInstance, p, b / x, rfl, hp.1, hp.2, by omega, ?_⟩
    simpa using q
  · obtain ⟨hD1, hD2⟩ := none_upd hD
    refine ⟨_, fg_newL hD1 (ex_upd hD1 (ex_new hp1)) upd_same, ?_⟩
    refine ⟨D, _, rfl, sq_up, ?_⟩
    have e : (((zl l).map fun i : Int => ((pwl p (b / i.toNat) 1).length : Int)).sum) = (cnt (p :: r) b : Int) := by
      rw [sum_zl (f := fun x => (pwl p (b / x) 1).length), cnt_sum w.good hl]
      congr 2
      refine List.map_congr_left fun x hx => (pwl_div1 (mk_pos w.tail.good.ge ((hl.2 x).mp hx).1) hp.1).symm
    rw [e]
    exact q _ (ex_new hD1)
def sp_many_between (K : PySem.W.Frag) : Sp := fun vs H Q _ => Nod H ∧ ∃ (a : Addr) (row : List Nat) (lo hi : Nat), vs = [.ref a, .int (lo : Int), .int (hi : Int)] ∧ H a = some (.lst (zv row)) ∧ Rw row ∧ row ≠ [] ∧ Fits row hi ∧
  Q (.int (if hi < lo then 0 else (cnt row hi : Int) - (cnt row (lo - 1) : Int))) H
/-- slots: row low high -/
abbrev n_many_between : List Str := ["row", "low", "high"]
def t_many_between (K : PySem.W.Frag) : TS := (sFg (tSeq (tDrop (tCall (sp_need_row K) [] E0 (tCons (tVar 0) tNil)))
  (tSeq (tIfS (tTest (tOp oGt (tVar 1) (tVar 2))) (tRet (tC (.int 0))) tNext)
  (tRet (tOp oSub (tCall (sp_many_to K) [] E0 (tCons (tVar 0) (tCons (tVar 2) tNil))) (tCall (sp_many_to K) [] E0 (tCons (tVar 0) (tCons (tCB cMax (tCons (tC (.int 0)) (tCons (tOp oSub (tVar 1) (tC (.int 1))) tNil))) tNil))))))))
theorem r_many_between {K : PySem.W.Frag} {vs : List V} {H : Hp} {Q : VK} {E : XK} (h : sp_many_between K vs H Q E) : t_many_between K { nx := fun _ H' => Q .non H', rt := Q } (start n_many_between vs) H := by
  obtain ⟨nd, a, row, lo, hi, rfl, ha, w, hne, f, q⟩ := h
  refine fg_body (need rfl ha w hne (q_whenP (by clean_wf) (fun hc => ?_) fun hc => ?_))
  · rw [if_pos (by omega)] at q
    exact s_ret ev_c ⟨H, fg_same ex_refl, q⟩
  · rw [if_neg (by omega)] at q
    refine s_ret (ev_sub (ev_call (ea_2 (ev_v 0) (ev_v 2)) fun Q q => ⟨nd, a, row, hi, rfl, ha, w, hne, f, q⟩) (ev_call (ea_2 (ev_v 0) (ev_eq (y := .int ((lo - 1 : Nat) : Int)) (ev_max ev_c (ev_sub (ev_v 1) ev_c)) (by congr 1; split <;> omega))) fun Q q => ⟨nd, a, row, lo - 1, rfl, ha, w, hne, f.mono (by omega), q⟩)) ⟨H, fg_same ex_refl, q⟩
/-! ### next and last -/
def sp_next_one (K : PySem.W.Frag) : Sp := fun vs H Q _ => Nod H ∧ ∃ (a : Addr) (row : List Nat) (n : Nat), vs = [.ref a, .int (n : Int)] ∧ H a = some (.lst (zv row)) ∧ Rw row ∧ row ≠ [] ∧ Fits (row.drop 1) (n * 97) ∧ n < 2 ^ 63 ∧
  ∀ m, IsNext row n m → Q (.int (m : Int)) H
/-- slots: row number best rest -/
abbrev n_next_one : List Str := ["row", "number", "best", "rest"]
def t_next_one (K : PySem.W.Frag) : TS := (sFg (tSeq (tDrop (tCall (sp_need_row K) [] E0 (tCons (tVar 0) tNil)))
  (tSeq (tIfS (tTest (tOp rEq (tVar 1) (tC (.int 0)))) (tRet (tC (.int 1))) tNext)
  (tSeq (tAsg (tOp oMul (tCall (sp_grown K) [] E0 (tCons (tC (.int 1)) (tCons (tOp (rIxL K) (tVar 0) (tC (.int 0))) (tCons (tVar 1) tNil)))) (tOp (rIxL K) (tVar 0) (tC (.int 0)))) (gName 2))
  (tSeq (tFor (iList K (tFg (tCall (sp_made_to K) [] E0 (tCons (tSl (rSlL K) (tVar 0) (tPart (tC (.int 1))) tNoPart) (tCons (tVar 2) tNil))))) (gName 3) (tSeq (tIfS (tTest (tOp oLe (tVar 3) (tVar 1))) (tAsg (tOp oMul (tCall (sp_grown K) [] E0 (tCons (tVar 3) (tCons (tOp (rIxL K) (tVar 0) (tC (.int 0))) (tCons (tVar 1) tNil)))) (tOp (rIxL K) (tVar 0) (tC (.int 0)))) (gName 3)) tNext)
  (tAsg (tCB cMin (tCons (tVar 2) (tCons (tVar 3) tNil))) (gName 2))))
  (tRet (tVar 2)))))))
theorem next_zero {row : List Nat} (g : ∀ p ∈ row, 2 ≤ p) : IsNext row 0 1 := ⟨.one, by omega, fun k hk _ => mk_pos g hk⟩
theorem r_next_one {K : PySem.W.Frag} {vs : List V} {H : Hp} {Q : VK} {E : XK} (h : sp_next_one K vs H Q E) : t_next_one K { nx := fun _ H' => Q .non H', rt := Q } (start n_next_one vs) H := by
  obtain ⟨nd, a, row, n, rfl, ha, w, hne, f, hn, q⟩ := h
  obtain ⟨p, r, rfl⟩ := List.exists_cons_of_ne_nil hne
  have hp := w.ge List.mem_cons_self
  have g := w.good
  refine fg_body (need rfl ha w hne (q_whenP (by clean_wf) (fun hc => ?_) fun hc => ?_))
  · have : n = 0 := by omega
    subst this
    exact s_ret ev_c ⟨H, fg_same ex_refl, q 1 (next_zero g.ge)⟩
  have hn0 : 0 < n := by omega
  have ev0 : ∀ {σ : L2.St} {H' : Hp}, σ[0]? = some (some (.ref a)) → Ex H H' → Ev (tOp (rIxL K) (tVar 0) (tC (.int 0))) σ H' (.int (p : Int)) := fun h e => ev_ixL (ev_v' h) ev_c (sq_at (e _ _ ha)) zv_0
  refine q_setW (w_op (w_callW (w_cons (w_c (w_cons (w_ev (ev0 rfl ex_refl) (w_one (w_v 1 ⟨nd, 1, p, n, rfl, by omega, by omega, hp.1, hp.2, by omega, fun y gy => ?_⟩))))))))
  have hy := gy.le hn0
  have hyp : (y : Int) * (p : Int) = ((y * p : Nat) : Int) := by simp
  have hyn : y * p ≤ n * 97 := Nat.mul_le_mul hy hp.2
  refine w_ev (ev0 rfl ex_refl) (r_mul (cm (by omega)) ?_)
  rw [hyp]
  have hmk0 : Mk (p :: r) (y * p) := by
    obtain ⟨k, e⟩ := gy.pw
    rw [e, Nat.one_mul, ← Nat.pow_succ]
    exact mk_pow List.mem_cons_self _
  have hgt0 := gy.gt
  generalize y * p = b0 at hyn hmk0 hgt0
  refine q_seq (w_forL (el_rest rfl ha w (f.mono hyn) (fun H1 => ev_v 2) fun l p1 hl hp1 => ⟨p1, rfl, ⟨_, sq_up⟩, ?_⟩))
  have hap : a ≠ p1 := ne_of_none ha hp1
  refine lp_list (xs := zv l) (fun i σ' H' => ∃ (best : Nat) (y3 : Option V), σ' = [some (.ref a), some (.int (n : Int)), some (.int (best : Int)), y3] ∧ H' = upd H p1 (.lst (zv l)) ∧ Mk (p :: r) best ∧ n < best ∧ best ≤ b0 ∧ ∀ x ∈ l.take i, ∀ k, n < x * p ^ k → best ≤ x * p ^ k) ⟨b0, none, rfl, rfl, hmk0, hgt0, by omega, by simp⟩ (fun i σ' H' _ hv => ?_) (fun i x σ' H' hx hv => ?_) (fun σ' H' hv => ?_)
  · obtain ⟨_, _, _, rfl, _⟩ := hv
    exact sq_up
  · obtain ⟨best, y3, rfl, rfl, hm, hg, hle, hall⟩ := hv
    simp only [List.getElem?_map] at hx
    cases e : l[i]? with
    | none => rw [e] at hx; cases hx
    | some x' =>
      rw [e] at hx
      cases hx
      have hxm := (hl.2 x').mp (List.mem_of_getElem? e)
      have hx0 := mk_pos w.tail.good.ge hxm.1
      have etake : l.take (i + 1) = l.take i ++ [x'] := by rw [List.take_add_one, e]; rfl
      have fin : ∀ z : Nat, Mk (p :: r) z → n < z → (∀ k, n < x' * p ^ k → z ≤ x' * p ^ k) → ∀ N : L2.St → Hp → Prop, (∀ σ' H', (∃ (best : Nat) (y3 : Option V), σ' = [some (.ref a), some (.int (n : Int)), some (.int (best : Int)), y3] ∧ H' = upd H p1 (.lst (zv l)) ∧ Mk (p :: r) best ∧ n < best ∧ best ≤ b0 ∧ ∀ x ∈ l.take (i + 1), ∀ k, n < x * p ^ k → best ≤ x * p ^ k) → N σ' H') →
          N [some (.ref a), some (.int (n : Int)), some (.int (if (z : Int) < (best : Int) then (z : Int) else (best : Int))), some (.int (z : Int))] (upd H p1 (.lst (zv l))) := fun z h1 h2 h3 N hN => by
        by_cases hzb : z < best
        · rw [if_pos (by omega)]
          refine hN _ _ ⟨z, _, rfl, rfl, h1, h2, by omega, fun x hx k hk => ?_⟩
          rw [etake, List.mem_append] at hx
          rcases hx with hx | hx
          · have := hall x hx k hk; omega
          · rw [List.mem_singleton.mp hx] at hk ⊢; exact h3 k hk
        · rw [if_neg (by omega)]
          refine hN _ _ ⟨best, _, rfl, rfl, hm, hg, hle, fun x hx k hk => ?_⟩
          rw [etake, List.mem_append] at hx
          rcases hx with hx | hx
          · exact hall x hx k hk
          · rw [List.mem_singleton.mp hx] at hk ⊢; have := h3 k hk; omega
      refine q_whenI (fun σ' H' => ∃ z : Nat, σ' = [some (.ref a), some (.int (n : Int)), some (.int (best : Int)), some (.int (z : Int))] ∧ H' = upd H p1 (.lst (zv l)) ∧ Mk (p :: r) z ∧ n < z ∧ ∀ k, n < x' * p ^ k → z ≤ x' * p ^ k) (ep_le (i := (x' : Int)) (j := (n : Int)) (ev_v 3) (ev_v 1)) (fun hxn N hN => ?_) (fun hxn => ⟨x', rfl, rfl, mk_mono (fun _ h => List.mem_cons_of_mem _ h) hxm.1, by omega, fun k _ => pow_le_self hp.1⟩) fun σ' H' hI => ?_
      · refine s_setW (w_op (w_callW (w_cons (w_v 3 (w_cons (w_ev (ev0 rfl (ex_new hp1)) (w_one (w_v 1 ⟨inferInstance, x', p, n, rfl, hx0, by omega, hp.1, hp.2, by omega, fun z gz => ?_⟩))))))))
        have hz := gz.le (by omega)
        have hzp : (z : Int) * (p : Int) = ((z * p : Nat) : Int) := by simp
        refine w_ev (ev0 rfl (ex_new hp1)) (r_mul (cm (by omega)) ?_)
        rw [hzp]
        refine hN _ _ ⟨z * p, rfl, rfl, ?_, gz.gt, fun k hk => gz.least hp.1 (by omega) hx0 hk⟩
        obtain ⟨k, e⟩ := gz.pw
        rw [e, Nat.mul_assoc, ← Nat.pow_succ]
        exact mk_cons.mpr ⟨k + 1, x', rfl, hxm.1⟩
      · obtain ⟨z, rfl, rfl, h1, h2, h3⟩ := hI
        exact s_set (ev_min (ev_v 2) (ev_v 3)) (fin z h1 h2 h3 _ fun _ _ h => h)
  · obtain ⟨best, y3, rfl, rfl, hm, hg, hle, hall⟩ := hv
    rw [zv_len, List.take_length] at hall
    exact s_ret (ev_v 2) ⟨_, fg_same (ex_new hp1), q best (next_of g hl hmk0 hgt0 hm hg hle hall)⟩
end Px
set_option Elab.async false
set_option linter.all false
set_option maxRecDepth 100000
set_option maxHeartbeats 4000000
namespace Px
open PySem L2 MA
local macro_rules | `(tactic| bv_omega) => `(tactic| first | assumption | omega | exact cm (by omega) | exact cd (by omega) | exact cp (by omega) | exact trivial)
local macro_rules | `(tactic| array_get_dec) => `(tactic| first
  | assumption
  | exact sq_up
  | exact Own.sqi (by assumption) 0 (by rfl)
  | exact Own.sqi (by assumption) 1 (by rfl)
  | exact Own.sqi (by assumption) 2 (by rfl)
  | exact Own.sqi (by assumption) 3 (by rfl)
  | exact Own.sqi (by assumption) 4 (by rfl)
  | exact Own.sq (by assumption) (by assumption)
  | exact sq_new (by assumption) (by assumption))
local macro_rules | `(tactic| clean_wf) => `(tactic| first
  | with_reducible exact ev_c
  | (with_reducible apply ev_v') <;> rfl
  | (with_reducible apply ev_add) <;> clean_wf
  | (with_reducible apply ev_sub) <;> clean_wf
  | (with_reducible apply ev_mul) <;> clean_wf
  | (with_reducible apply ev_mod) <;> clean_wf
  | (with_reducible apply ev_div) <;> clean_wf
  | (with_reducible apply ev_pow) <;> clean_wf
  | (with_reducible apply ev_neg) <;> clean_wf
  | (with_reducible apply ev_lt) <;> clean_wf
  | (with_reducible apply ev_le) <;> clean_wf
  | (with_reducible apply ev_gt) <;> clean_wf
  | (with_reducible apply ev_ge) <;> clean_wf
  | (with_reducible apply ev_eqi) <;> clean_wf
  | (with_reducible apply ev_nei) <;> clean_wf
  | (with_reducible apply ev_len) <;> clean_wf
  | (with_reducible apply ev_ixL) <;> clean_wf
  | (with_reducible apply ev_min) <;> clean_wf
  | (with_reducible apply ev_max) <;> clean_wf
  | (with_reducible apply ev_abs) <;> clean_wf
  | (with_reducible apply ev_intB) <;> clean_wf
  | (with_reducible apply ea_1) <;> clean_wf
  | (with_reducible apply ea_2) <;> clean_wf
  | (with_reducible apply ea_3) <;> clean_wf
  | with_reducible exact ea_nil
  | (with_reducible apply ea_cons) <;> clean_wf
  | with_reducible exact el_nil
  | (with_reducible apply ep_lt) <;> clean_wf
  | (with_reducible apply ep_le) <;> clean_wf
  | (with_reducible apply ep_gt) <;> clean_wf
  | (with_reducible apply ep_ge) <;> clean_wf
  | (with_reducible apply ep_eqi) <;> clean_wf
  | (with_reducible apply ep_nei) <;> clean_wf
  | (with_reducible apply ep_not) <;> clean_wf
  | ((with_reducible apply ep_and) <;> first | (intro _; clean_wf; done) | clean_wf)
  | ((with_reducible apply ep_or) <;> first | (intro _; clean_wf; done) | clean_wf)
  | (with_reducible apply et_t) <;> clean_wf
  | (with_reducible apply eo_is) <;> clean_wf
  | with_reducible exact eo_no
  | array_get_dec
  | bv_omega
  | rfl
  | skip)
local macro_rules | `(tactic| symm_saturate) => `(tactic| first
  | ((with_reducible apply q_set); (focus (clean_wf; done)))
  | ((with_reducible apply s_set); (focus (clean_wf; done)))
  | ((with_reducible apply q_aug (hx := rfl)); (focus (clean_wf; done)))
  | ((with_reducible apply s_aug (hx := rfl)); (focus (clean_wf; done)))
  | ((with_reducible apply q_augC (hx := rfl)); (focus (clean_wf; done)))
  | ((with_reducible apply s_augC (hx := rfl)); (focus (clean_wf; done))))
local macro_rules | `(tactic| subst_eqs) => `(tactic| repeat' (first
  | with_reducible apply w_c
  | ((with_reducible apply w_v'); (focus rfl))
  | with_reducible apply w_op
  | with_reducible apply w_cb
  | with_reducible apply w_cons
  | with_reducible apply w_nil
  | with_reducible apply r_add
  | with_reducible apply r_sub
  | ((with_reducible apply r_mul); (focus (bv_omega; done)))
  | ((with_reducible apply r_div); (focus (bv_omega; done)))
  | ((with_reducible apply r_mod); (focus (bv_omega; done)))
  | ((with_reducible apply r_pow); (focus (bv_omega; done)))
  | with_reducible apply r_lt
  | with_reducible apply r_le
  | with_reducible apply r_gt
  | with_reducible apply r_ge
  | with_reducible apply r_min
  | with_reducible apply r_max
  | with_reducible apply r_intB
  | ((with_reducible apply r_len); (focus (array_get_dec; done)))
  | with_reducible apply w_callW
  | with_reducible apply q_setW
  | with_reducible apply s_setW
  | with_reducible apply s_retW))

theorem gn_uniq {p b x y y' : Nat} (hp : 2 ≤ p) (hx : 0 < x) (hxb : x ≤ b) (g : Gn p b x y) (g' : Gn p b x y') : y = y' := by
  obtain ⟨k, e⟩ := g.pw
  obtain ⟨k', e'⟩ := g'.pw
  have h1 := g.le hxb
  have h2 := g'.le hxb
  have h3 := g'.most hp hx (k := k) (by omega)
  have h4 := g.most hp hx (k := k') (by omega)
  omega
open Classical in
noncomputable def gro (p b x : Nat) : Nat := if h : ∃ y, Gn p b x y then Classical.choose h else 0
theorem gro_eq {p b x y : Nat} (hp : 2 ≤ p) (hx : 0 < x) (hxb : x ≤ b) (g : Gn p b x y) : gro p b x = y := by
  have h : ∃ y, Gn p b x y := ⟨y, g⟩
  unfold gro
  rw [dif_pos h]
  exact gn_uniq hp hx hxb (Classical.choose_spec h) g
theorem gro_is {p b x : Nat} (hp : 2 ≤ p) (hx : 0 < x) (hxb : x ≤ b) : Gn p b x (gro p b x) := by
  have key : ∀ d y k, b - y = d → y = x * p ^ k → y ≤ b → ∃ z, Gn p b x z := by
    intro d
    induction d using Nat.strongRecOn with
    | ind d ih =>
      intro y k hd hy hyb
      by_cases h : y * p ≤ b
      · have hy0 : 0 < y := by rw [hy]; exact Nat.mul_pos hx (Nat.pow_pos (by omega))
        have h2 : y * 2 ≤ y * p := Nat.mul_le_mul_left y hp
        exact ih (b - y * p) (by omega) (y * p) (k + 1) rfl (by rw [hy, Nat.pow_succ, Nat.mul_assoc]) h
      · exact ⟨y, ⟨k, hy⟩, by omega, fun _ => hyb⟩
  obtain ⟨z, hz⟩ := key _ x 0 rfl (by simp) hxb
  rw [gro_eq hp hx hxb hz]
  exact hz
/-! ### the last one -/
/-- what last_one tells -/
def LastV (row : List Nat) (n : Nat) (v : V) : Prop := (n < 2 ∧ v = .non) ∨ ∃ m, 2 ≤ n ∧ IsLast row n m ∧ v = .int (m : Int)
def sp_last_one (K : PySem.W.Frag) : Sp := fun vs H Q _ => Nod H ∧ ∃ (a : Addr) (row : List Nat) (n : Nat), vs = [.ref a, .int (n : Int)] ∧ H a = some (.lst (zv row)) ∧ Rw row ∧ row ≠ [] ∧ Fits (row.drop 1) (n - 1) ∧
  ∀ v, LastV row n v → Q v H
/-- slots: row number rest -/
abbrev n_last_one : List Str := ["row", "number", "rest"]
def t_last_one (K : PySem.W.Frag) : TS := (sFg (tSeq (tDrop (tCall (sp_need_row K) [] E0 (tCons (tVar 0) tNil)))
  (tSeq (tIfS (tTest (tOp oLt (tVar 1) (tC (.int 2)))) (tRet (tC .non)) tNext)
  (tRet (tFg (tCB (rMax K) (tCons (tFg (tLc (iList K (tFg (tCall (sp_made_to K) [] E0 (tCons (tSl (rSlL K) (tVar 0) (tPart (tC (.int 1))) tNoPart) (tCons (tOp oSub (tVar 1) (tC (.int 1))) tNil))))) (gName 2) tYes (tCall (sp_grown K) [] E0 (tCons (tVar 2) (tCons (tOp (rIxL K) (tVar 0) (tC (.int 0))) (tCons (tOp oSub (tVar 1) (tC (.int 1))) tNil)))) [2])) tNil)))))))
theorem r_last_one {K : PySem.W.Frag} {vs : List V} {H : Hp} {Q : VK} {E : XK} (h : sp_last_one K vs H Q E) : t_last_one K { nx := fun _ H' => Q .non H', rt := Q } (start n_last_one vs) H := by
  obtain ⟨nd, a, row, n, rfl, ha, w, hne, f, q⟩ := h
  obtain ⟨p, r, rfl⟩ := List.exists_cons_of_ne_nil hne
  have hp := w.ge List.mem_cons_self
  have g := w.good
  have hb := f.lt
  refine fg_body (need rfl ha w hne (q_whenP (by clean_wf) (fun hc => ?_) fun hc => ?_))
  · exact s_ret ev_c ⟨H, fg_same ex_refl, q _ (.inl ⟨by omega, rfl⟩)⟩
  have hn2 : 2 ≤ n := by omega
  have en : (n : Int) - 1 = ((n - 1 : Nat) : Int) := by omega
  refine s_retW (w_fg (w_cb (w_one (w_fg (w_lcLW (el_rest (b := n - 1) rfl ha w f (fun H1 => ev_eq (ev_sub (ev_v 1) ev_c) (by rw [en])) fun l p1 hl hp1 => ⟨p1, rfl, ⟨_, sq_up⟩, lcat_map (fun i => (gro p (n - 1) i.toNat : Int)) sq_up ?_ (fun _ => rfl) (fun i hi D acc hD => ?_) fun D hD => ?_⟩))))))
  · rw [zl_len, hl.len]
    exact Nat.le_trans (w.tail.fit f) (by omega)
  · obtain ⟨x, hx, rfl⟩ := List.mem_map.mp hi
    have hx0 := mk_pos w.tail.good.ge ((hl.2 x).mp hx).1
    have hxb := ((hl.2 x).mp hx).2
    obtain ⟨hD1, hD2⟩ := none_upd hD
    have hap : a ≠ p1 := ne_of_none ha hp1
    have haD : a ≠ D := ne_of_none ha hD1
    refine ev_call (ea_3 (ev_v 2) (ev_ixL (i := 0) (v := .int (p : Int)) (ev_v 0) ev_c (sq_at (by rw [upd_ne haD, upd_ne hap]; exact ha)) zv_0) (ev_sub (ev_v 1) ev_c)) fun Q q => ⟨inferInstance, x, p, n - 1, by rw [en], hx0, by omega, hp.1, hp.2, by omega, fun y gy => ?_⟩
    rw [← gro_eq hp.1 hx0 hxb gy]
    simpa using q
  · obtain ⟨hD1, hD2⟩ := none_upd hD
    refine ⟨_, fg_newL hD1 (ex_upd hD1 (ex_new hp1)) upd_same, ?_⟩
    have h1l : 1 ∈ l := (hl.2 1).mpr ⟨.one, by omega⟩
    refine ⟨D, _, rfl, sq_up, by rw [List.length_map, zl_len]; exact List.length_pos_of_mem h1l, fun m hm hall => ⟨H, fg_same (ex_new hD1), H, fg_same ex_refl, ?_⟩⟩
    obtain ⟨i, hi, rfl⟩ := List.mem_map.mp hm
    obtain ⟨x, hx, rfl⟩ := List.mem_map.mp hi
    have hxm := (hl.2 x).mp hx
    have gx := gro_is hp.1 (mk_pos w.tail.good.ge hxm.1) hxm.2
    refine q _ (.inr ⟨gro p (n - 1) x, hn2, last_of g hl ?_ ?_ fun z hz k hk => ?_, rfl⟩)
    · obtain ⟨k, e⟩ := gx.pw
      exact mk_cons.mpr ⟨k, x, e, hxm.1⟩
    · have := gx.le hxm.2; omega
    · have hzm := (hl.2 z).mp hz
      have hz0 := mk_pos w.tail.good.ge hzm.1
      have gz := gro_is hp.1 hz0 hzm.2
      have h3 := gz.most hp.1 hz0 hk
      have h4 := hall _ (List.mem_map.mpr ⟨(z : Int), List.mem_map.mpr ⟨z, hz, rfl⟩, rfl⟩)
      simp only [Int.toNat_natCast] at h4
      omega
/-! ### the first so many -/
theorem cmL {x p : Nat} (hx : x < 2 ^ 7000) (hp : p ≤ 97) : CMulW (x : Int) (p : Int) := by
  refine wide_mul (a := 7000) (b := 7) ?_ ?_ (by decide) (by decide) (by decide)
  · rw [Int.natAbs_natCast]; exact hx
  · rw [Int.natAbs_natCast]; omega
def sp_first_ones (K : PySem.W.Frag) : Sp := fun vs H Q _ => Nod H ∧ ∃ (a : Addr) (row : List Nat) (m T : Nat), vs = [.ref a, .int (m : Int)] ∧ H a = some (.lst (zv row)) ∧ Rw row ∧ row ≠ [] ∧ m ≤ 9000000 ∧ m ≤ cnt row T ∧ T < 2 ^ 7000 ∧
  ∀ (p : Addr) (l : List Nat), H p = none → IsFst row m l → Q (.ref p) (upd H p (.lst (zv l)))
/-- slots: row many found places some least place prime one -/
abbrev n_first_ones : List Str := ["row", "many", "found", "places", "some", "least", "place", "prime", "one"]
def t_first_ones (K : PySem.W.Frag) : TS := (sFg (tSeq (tDrop (tCall (sp_need_row K) [] E0 (tCons (tVar 0) tNil)))
  (tSeq (tAsg (tLst (tCons (tC (.int 1)) tNil)) (gName 2))
  (tSeq (tAsg (tFg (tOp rRep (tLst (tCons (tC (.int 0)) tNil)) (tCB (cLen K) (tCons (tVar 0) tNil)))) (gName 3))
  (tSeq (tWhile (tTest (tOp oLt (tCB (cLen K) (tCons (tVar 2) tNil)) (tVar 1))) (tSeq (tAsg (tLc (iZip K (tCons (tVar 3) (tCons (tVar 0) tNil))) (gTup K 2 (gCons (gName 6) (gCons (gName 7) gNil))) tYes (tOp oMul (tOp (rIxL K) (tVar 2) (tVar 6)) (tVar 7)) [6, 7]) (gName 4))
  (tSeq (tAsg (tCB (rMin K) (tCons (tVar 4) tNil)) (gName 5))
  (tSeq (tDrop (tBM K "list" rAppend (tVar 2) (tCons (tVar 5) tNil)))
  (tAsg (tLc (iZip K (tCons (tVar 3) (tCons (tVar 4) tNil))) (gTup K 2 (gCons (gName 6) (gCons (gName 8) gNil))) tYes (tOp oAdd (tVar 6) (tCB cInt (tCons (tOp rEq (tVar 8) (tVar 5)) tNil))) [6, 8]) (gName 3))))))
  (tRet (tSl (rSlL K) (tVar 2) tNoPart (tPart (tVar 1)))))))))
def prods (F pl row : List Nat) : List Nat := (pl.zip row).map fun q => F.getD q.1 0 * q.2
def moved (pl S : List Nat) (m : Nat) : List Nat := (pl.zip S).map fun q => q.1 + if q.2 = m then 1 else 0
theorem prods_len {F pl row : List Nat} (h : pl.length = row.length) : (prods F pl row).length = row.length := by simp [prods, h]
theorem prods_get {F pl row : List Nat} {j k p x : Nat} (h1 : row[j]? = some p) (h2 : pl[j]? = some k) (h3 : F[k]? = some x) : (prods F pl row)[j]? = some (x * p) := by
  unfold prods
  rw [List.getElem?_map, (List.getElem?_zip_eq_some (z := (k, p))).mpr ⟨h2, h1⟩]
  simp [List.getD_eq_getElem?_getD, h3]
theorem moved_get {pl S : List Nat} {j k s m : Nat} (h1 : pl[j]? = some k) (h2 : S[j]? = some s) : (moved pl S m)[j]? = some (k + if s = m then 1 else 0) := by
  unfold moved
  rw [List.getElem?_map, (List.getElem?_zip_eq_some (z := (k, s))).mpr ⟨h1, h2⟩]; rfl
theorem take_snoc {l : List Nat} {i x : Nat} (h : l[i]? = some x) : l.take (i + 1) = l.take i ++ [x] := by rw [List.take_add_one, h]; rfl
theorem zv_some {l : List Nat} {i : Nat} {v : V} (h : (zv l)[i]? = some v) : ∃ x : Nat, l[i]? = some x ∧ v = .int (x : Int) := by
  simp only [List.getElem?_map] at h
  cases e : l[i]? with
  | none => rw [e] at h; cases h
  | some x => rw [e] at h; cases h; exact ⟨x, rfl, rfl⟩
theorem r_first_ones {K : PySem.W.Frag} {vs : List V} {H : Hp} {Q : VK} {E : XK} (h : sp_first_ones K vs H Q E) : t_first_ones K { nx := fun _ H' => Q .non H', rt := Q } (start n_first_ones vs) H := by
  obtain ⟨nd, a, row, m, T, rfl, ha, w, hne, hm, hmT, hT, q⟩ := h
  have g := w.good
  have hl6 := w.le
  have hl0 : 0 < row.length := List.length_pos_iff.mpr hne
  have sa : SqL K H a (zv row) := sq_at ha
  refine fg_body (need rfl ha w hne (q_setL (el_lst (ea_1 ev_c) (by simp)) fun pf hpf => ?_))
  have o : Own H [(pf, zv [1])] (upd H pf (.lst [.int 1])) := Own.nil.new hpf
  refine q_setL (xs := zv (List.replicate row.length 0)) (el_fg fun Q q => w_op (w_evL (el_lst (ea_1 ev_c) (by simp)) fun p1 hp1 => w_ev (ev_len (ev_v 0) (sq_new hp1 (o.sq sa))) ⟨p1, _, _, rfl, rfl, upd_same, by rw [zv_len]; omega, by rw [zv_len]; omega, ?_, fun p2 hp2 => ?_⟩)) fun pp hpp => ?_
  · rw [zv_len]; exact Nat.le_trans (by simp; omega : _ ≤ 1000) (by decide)
  · obtain ⟨h1, h2⟩ := none_upd hp2
    refine q p2 _ h1 (ex_upd h1 (ex_new hp1)) ?_
    rw [upd_same]
    simp
  replace o := o.new (xs := zv (List.replicate row.length 0)) hpp
  refine q_whileP (fun k σ' H' => ∃ (F pl : List Nat) (c : Nat) (pp : Addr) (y4 y5 y6 y7 y8 : Option V), σ' = [some (.ref a), some (.int (m : Int)), some (.ref pf), some (.ref pp), y4, y5, none, none, none] ∧ Own H [(pp, zv pl), (pf, zv F)] H' ∧ FS row F pl c ∧ k = m - F.length ∧ (F.length ≤ m ∨ F.length = 1)) (m - 1)
    ⟨[1], _, 1, pp, none, none, none, none, none, rfl, o, .start g.ge, rfl, .inr rfl⟩ (fun k σ' H' hw => ?_)
  obtain ⟨F, pl, c, pp, y4, y5, y6, y7, y8, rfl, o, fs, rfl, hF⟩ := hw
  have hFc := fs.flen
  refine ⟨_, ep_lt (ev_len (ev_v 2) (o.sqi 1 rfl)) (ev_v 1), fun hc => ?_, fun hc => ?_⟩
  · rw [zv_len] at hc
    have hFm : F.length < m := by omega
    have hcT : c ≤ T := fst_le fs.mkc (by omega : cnt row c ≤ m) hmT
    have hFx : ∀ {j x : Nat}, F[j]? = some x → x ≤ c := fun {j x} hj => by
      have := List.mem_of_getElem? hj
      rw [fs.eq] at this
      exact (allL_mem.mp this).2
    have hpr : ∀ {j p : Nat}, row[j]? = some p → 2 ≤ p ∧ p ≤ 97 := fun hj => w.ge (List.mem_of_getElem? hj)
    have hplen := fs.len
    -- some = [..]
    refine q_setW (w_lcZ (ea_2 (ev_v 3) (ev_v 0) _ ⟨pp, a, zv pl, zv row, rfl, o.sqi 0 rfl, o.sq sa, lcat_zip (fun D i H' => Own H [(D, zv ((prods F pl row).take i)), (pp, zv pl), (pf, zv F)] H') (fun D hD => o.new hD) (fun D i H' hD o => ⟨o.sqi 1 rfl, o.sq sa⟩) (fun x y => rfl) (fun D i x y Tp H' hD hx hy o hTp => ?_) fun D H' hD o => ?_⟩))
    · obtain ⟨k, hk, rfl⟩ := zv_some hx
      obtain ⟨p, hp, rfl⟩ := zv_some hy
      obtain ⟨z, hz, _, _⟩ := fs.ok i p k hp hk
      have hkl : k < F.length := (List.getElem?_eq_some_iff.mp hz).1
      have hzc := hFx hz
      have o2 := o.tup (xs := [V.int (k : Int), .int (p : Int)]) hTp
      have eF : F[k] = z := (List.getElem?_eq_some_iff.mp hz).2
      refine et_yes _ (iteT (ev_mul (i := (z : Int)) (j := (p : Int)) (ev_ixL (i := (k : Int)) (ev_v 2) (ev_v 6) (o2.sqi 2 rfl) (by rw [zv_at hkl, eF])) (ev_v 7) (cmL (by omega) (hpr hp).2) _ ⟨_, o2.atI 0 rfl, ?_, ?_⟩))
      · rw [zv_len, List.length_take]; exact szl (by rw [prods_len hplen]; omega)
      · rw [take_snoc (prods_get hp hk hz), zv_app]
        have := o2.mut (ys := zv ((prods F pl row).take i) ++ [V.int ((z * p : Nat) : Int)]) 0 rfl
        simpa using this
    · rw [zv_len, zv_len, hplen, Nat.min_self, List.take_of_length_le (by rw [prods_len hplen]; omega)] at o
      have hS : 0 < (prods F pl row).length := by rw [prods_len hplen]; exact hl0
      -- least = min(some)
      refine q_setW (w_cb (w_one (w_v 4 ⟨D, zl (prods F pl row), rfl, o.sqi 0 rfl, by rw [zl_len]; exact hS, fun mm hmm hall => ?_⟩)))
      obtain ⟨ms, hms, rfl⟩ := List.mem_map.mp hmm
      have hle : ∀ j p k x : Nat, row[j]? = some p → pl[j]? = some k → F[k]? = some x → ms ≤ x * p := fun j p k x h1 h2 h3 => by
        have := hall _ (List.mem_map.mpr ⟨x * p, List.mem_of_getElem? (prods_get h1 h2 h3), rfl⟩)
        omega
      have hex : ∃ j p k x : Nat, row[j]? = some p ∧ pl[j]? = some k ∧ F[k]? = some x ∧ ms = x * p := by
        obtain ⟨j, hj⟩ := List.mem_iff_getElem?.mp hms
        have hjl : j < row.length := by rw [← prods_len (F := F) hplen]; exact (List.getElem?_eq_some_iff.mp hj).1
        have h1 := List.getElem?_eq_getElem hjl
        have h2 := List.getElem?_eq_getElem (show j < pl.length by omega)
        obtain ⟨x, hx, _, _⟩ := fs.ok j _ _ h1 h2
        refine ⟨j, _, _, x, h1, h2, hx, ?_⟩
        rw [prods_get h1 h2 hx] at hj
        exact (Option.some.inj hj).symm
      have nx := fs.next g hex hle
      -- found.append(least)
      refine q_seq (s_app (o.atI 2 rfl) (by rw [zv_len]; exact szl (by omega)) (ev_v 2) (ev_v 5) ?_)
      rw [zv_one]
      replace o := o.mut (ys := zv (F ++ [ms])) 2 rfl
      refine s_setW (w_lcZ (ea_2 (ev_v 3) (ev_v 4) _ ⟨pp, D, zv pl, zv (prods F pl row), rfl, o.sqi 1 rfl, o.sqi 0 rfl, lcat_zip (fun D2 i H' => Own H [(D2, zv ((moved pl (prods F pl row) ms).take i)), (D, zv (prods F pl row)), (pp, zv pl), (pf, zv (F ++ [ms]))] H') (fun D hD => o.new hD) (fun D i H' hD o => ⟨o.sqi 2 rfl, o.sqi 1 rfl⟩) (fun x y => rfl) (fun D2 i x y Tp H' hD hx hy o hTp => ?_) fun D2 H' hD o => ?_⟩))
      · obtain ⟨k, hk, rfl⟩ := zv_some hx
        obtain ⟨sv, hs, rfl⟩ := zv_some hy
        have o2 := o.tup (xs := [V.int (k : Int), .int (sv : Int)]) hTp
        have hi : i < row.length := by have := (List.getElem?_eq_some_iff.mp hk).1; omega
        refine et_yes _ (iteT (ev_add (i := (k : Int)) (ev_v 6) (ev_intB (ev_eqi (i := (sv : Int)) (j := (ms : Int)) (ev_v 8) (ev_v 5))) _ ⟨_, o2.atI 0 rfl, ?_, ?_⟩))
        · rw [zv_len, List.length_take]; exact szl (by omega)
        · rw [take_snoc (moved_get hk hs), zv_app]
          have := o2.mut (ys := zv ((moved pl (prods F pl row) ms).take i) ++ [V.int ((k + if sv = ms then 1 else 0 : Nat) : Int)]) 0 rfl
          have e : ((k : Int) + if decide ((sv : Int) = (ms : Int)) = true then 1 else 0) = ((k + if sv = ms then 1 else 0 : Nat) : Int) := by
            by_cases h : sv = ms
            · simp [h]
            · have h' : ¬ (sv : Int) = (ms : Int) := by omega
              simp [h, h']
          rw [e]
          simpa using this
      · have hml : (moved pl (prods F pl row) ms).length = pl.length := by simp [moved, prods_len hplen, hplen]
        rw [zv_len, zv_len, prods_len hplen, hplen, Nat.min_self, List.take_of_length_le (by omega)] at o
        refine ⟨m - (F ++ [ms]).length, by simp; omega, F ++ [ms], _, ms, D2, _, _, none, none, none, rfl, o.drop2.drop2, fs.step nx hml (fun j p k x h1 h2 h3 => ?_) hle g.ge, rfl, .inl (by simp; omega)⟩
        rw [moved_get h2 (prods_get h1 h2 h3)]
        split <;> simp
  · rw [zv_len] at hc
    refine s_retL (el_sl (ev_v 2) eo_no (eo_is (ev_v 1)) (o.sqi 1 rfl)) fun pr hpr => ?_
    rw [cut_toN]
    replace o := o.new (xs := zv (F.take m)) hpr
    refine ⟨_, o.ret 0 rfl, q pr _ (o.offI 0 rfl) ?_⟩
    by_cases h0 : m = 0
    · subst h0
      exact .inl ⟨rfl, by simp⟩
    · have : F.length = m := by omega
      rw [List.take_of_length_le (by omega)]
      exact .inr ⟨c, fs.mkc, by omega, fs.eq⟩
end Px
set_option linter.all false
set_option maxHeartbeats 1000000
namespace MA
theorem least_of {P : Nat → Prop} {n : Nat} (h : P n) : ∃ m, P m ∧ ∀ k, P k → m ≤ k := by
  induction n using Nat.strongRecOn with
  | ind n ih =>
    by_cases c : ∃ k, k < n ∧ P k
    · obtain ⟨k, hk, hp⟩ := c
      exact ih k hk hp
    · exact ⟨n, h, fun k hk => by
        rcases Nat.lt_or_ge k n with z | z
        · exact absurd ⟨k, z, hk⟩ c
        · exact z⟩
theorem most_of {P : Nat → Prop} {n b : Nat} (h : P n) (hb : n ≤ b) : ∃ m, P m ∧ m ≤ b ∧ ∀ k, P k → k ≤ b → k ≤ m := by
  obtain ⟨d, ⟨h1, h2⟩, h3⟩ := least_of (P := fun d => P (b - d) ∧ d ≤ b) (n := b - n) ⟨by rw [show b - (b - n) = n by omega]; exact h, by omega⟩
  exact ⟨b - d, h1, by omega, fun k hk hkb => by
    have := h3 (b - k) ⟨by rw [show b - (b - k) = k by omega]; exact hk, by omega⟩
    omega⟩
theorem lt_pow {p n : Nat} (hp : 2 ≤ p) : n < p ^ n := Nat.lt_of_lt_of_le Nat.lt_two_pow_self (Nat.pow_le_pow_left hp n)
theorem next_ex {row : List Nat} (g : Good row) (hne : row ≠ []) (n : Nat) : ∃ m, IsNext row n m := by
  obtain ⟨p, r, rfl⟩ := List.exists_cons_of_ne_nil hne
  obtain ⟨m, ⟨h1, h2⟩, h3⟩ := least_of (P := fun m => Mk (p :: r) m ∧ n < m) (n := p ^ n) ⟨mk_pow List.mem_cons_self n, lt_pow g.head⟩
  exact ⟨m, h1, h2, fun k hk hn => h3 k ⟨hk, hn⟩⟩
theorem last_ex {row : List Nat} {n : Nat} (hn : 2 ≤ n) : ∃ m, IsLast row n m := by
  obtain ⟨m, h1, h2, h3⟩ := most_of (P := Mk row) (n := 1) (b := n - 1) .one (by omega)
  exact ⟨m, h1, by omega, fun k hk hkn => h3 k hk (by omega)⟩
open Classical in
noncomputable def nxt (row : List Nat) (n : Nat) : Nat := if h : ∃ m, IsNext row n m then Classical.choose h else 0
theorem nxt_is {row : List Nat} (g : Good row) (hne : row ≠ []) (n : Nat) : IsNext row n (nxt row n) := by
  have h := next_ex g hne n
  unfold nxt
  rw [dif_pos h]
  exact Classical.choose_spec h
theorem nxt_eq {row : List Nat} {n m : Nat} (h : IsNext row n m) : nxt row n = m := by
  have h' : ∃ m, IsNext row n m := ⟨m, h⟩
  unfold nxt
  rw [dif_pos h']
  exact (Classical.choose_spec h').uniq h
open Classical in
noncomputable def lst (row : List Nat) (n : Nat) : Nat := if h : ∃ m, IsLast row n m then Classical.choose h else 0
theorem lst_is {row : List Nat} {n : Nat} (hn : 2 ≤ n) : IsLast row n (lst row n) := by
  have h := last_ex (row := row) hn
  unfold lst
  rw [dif_pos h]
  exact Classical.choose_spec h
theorem lst_eq {row : List Nat} {n m : Nat} (h : IsLast row n m) : lst row n = m := by
  have h' : ∃ m, IsLast row n m := ⟨m, h⟩
  unfold lst
  rw [dif_pos h']
  exact (Classical.choose_spec h').uniq h
noncomputable def nth (row : List Nat) : Nat → Nat
  | 0 => 1
  | k + 1 => nxt row (nth row k)
theorem nth_mk {row : List Nat} (g : Good row) (hne : row ≠ []) : ∀ k, Mk row (nth row k)
  | 0 => .one
  | k + 1 => (nxt_is g hne _).made
theorem cnt_one {row : List Nat} (g : ∀ p ∈ row, 2 ≤ p) : cnt row 1 = 1 := by rw [show (1 : Nat) = 0 + 1 from rfl, cnt_yes .one, cnt_zero g]
theorem nth_cnt {row : List Nat} (g : Good row) (hne : row ≠ []) : ∀ k, cnt row (nth row k) = k + 1
  | 0 => cnt_one g.ge
  | k + 1 => by
    show cnt row (nxt row (nth row k)) = _
    rw [cnt_next (nxt_is g hne _), nth_cnt g hne k]
theorem nth_all {row : List Nat} (g : Good row) (hne : row ≠ []) : ∀ k, allL row (nth row k) = (List.range (k + 1)).map (nth row)
  | 0 => by
    have h : allL row 1 = allL row 0 ++ [1] := allL_succ_yes .one
    show allL row 1 = _
    rw [h, show allL row 0 = [] from List.length_eq_zero_iff.mp (cnt_zero g.ge)]
    rfl
  | k + 1 => by
    show allL row (nxt row (nth row k)) = _
    rw [allL_next (nxt_is g hne _), nth_all g hne k, List.range_succ (n := k + 1), List.map_append]
    rfl
noncomputable def fst (row : List Nat) (m : Nat) : List Nat := (List.range m).map (nth row)
theorem fst_len {row : List Nat} {m : Nat} : (fst row m).length = m := by simp [fst]
theorem fst_get {row : List Nat} {m i : Nat} (h : i < m) : (fst row m)[i]? = some (nth row i) := by simp [fst, h]
theorem fst_is {row : List Nat} (g : Good row) (hne : row ≠ []) (m : Nat) : IsFst row m (fst row m) := by
  cases m with
  | zero => exact .inl ⟨rfl, rfl⟩
  | succ m => exact .inr ⟨nth row m, nth_mk g hne m, nth_cnt g hne m, (nth_all g hne m).symm⟩
theorem fst_eq {row l : List Nat} (g : Good row) (hne : row ≠ []) {m : Nat} (h : IsFst row m l) : l = fst row m := h.uniq g.ge (fst_is g hne m)
theorem nth_le {row : List Nat} (g : Good row) (hne : row ≠ []) {k T : Nat} (h : k < cnt row T) : nth row k ≤ T := fst_le (nth_mk g hne k) (Nat.le_of_eq (nth_cnt g hne k)) h
/-- a made number stands at its place -/
theorem nth_of {row : List Nat} (g : Good row) (hne : row ≠ []) {n : Nat} (h : Mk row n) : nth row (cnt row n - 1) = n := by
  have h0 := cnt_pos (row := row) (mk_pos g.ge h)
  exact mk_inj (nth_mk g hne _) h (by rw [nth_cnt g hne]; omega)
theorem fst_all {row : List Nat} (g : Good row) (hne : row ≠ []) (b : Nat) : fst row (cnt row b) = allL row b := by
  by_cases h : b = 0
  · subst h
    rw [cnt_zero g.ge, show allL row 0 = [] from List.length_eq_zero_iff.mp (cnt_zero g.ge)]; rfl
  · have h0 := cnt_pos (row := row) (b := b) (by omega)
    have e : allL row (nth row (cnt row b - 1)) = allL row b := by
      have hle := nth_le g hne (k := cnt row b - 1) (T := b) (by omega)
      refine (allL_gap hle fun n h1 h2 hn => ?_).symm
      have h3 := cnt_lt h1 hn
      rw [nth_cnt g hne] at h3
      have := cnt_mono (row := row) h2
      omega
    rw [← e, nth_all g hne, show cnt row b - 1 + 1 = cnt row b by omega]; rfl
/-- enough of them: the powers of one prime -/
theorem cnt_pow {row : List Nat} {p : Nat} (hp : p ∈ row) (h2 : 2 ≤ p) (k : Nat) : k + 1 ≤ cnt row (p ^ k) := by
  have : ((List.range (k + 1)).map fun i => p ^ i).length ≤ cnt row (p ^ k) := cnt_le ?_ fun n hn => by
    obtain ⟨i, hi, rfl⟩ := List.mem_map.mp hn
    exact ⟨mk_pow hp i, Nat.pow_le_pow_right (by omega) (by have := List.mem_range.mp hi; omega)⟩
  · simpa using this
  · refine List.pairwise_map.mpr (List.nodup_range.imp fun ne e => ne ?_)
    exact (Nat.pow_right_inj (by omega)).mp e
end MA
set_option Elab.async false
set_option linter.all false
set_option maxRecDepth 100000
set_option maxHeartbeats 4000000
namespace Px
open PySem L2 MA
local macro_rules | `(tactic| bv_omega) => `(tactic| first | assumption | omega | exact cm (by omega) | exact cd (by omega) | exact cp (by omega) | exact trivial)
local macro_rules | `(tactic| array_get_dec) => `(tactic| first
  | assumption
  | exact sq_up
  | exact Own.sqi (by assumption) 0 (by rfl)
  | exact Own.sqi (by assumption) 1 (by rfl)
  | exact Own.sqi (by assumption) 2 (by rfl)
  | exact Own.sqi (by assumption) 3 (by rfl)
  | exact Own.sqi (by assumption) 4 (by rfl)
  | exact Own.sq (by assumption) (by assumption)
  | exact sq_new (by assumption) (by assumption))
local macro_rules | `(tactic| clean_wf) => `(tactic| first
  | with_reducible exact ev_c
  | (with_reducible apply ev_v') <;> rfl
  | (with_reducible apply ev_add) <;> clean_wf
  | (with_reducible apply ev_sub) <;> clean_wf
  | (with_reducible apply ev_mul) <;> clean_wf
  | (with_reducible apply ev_mod) <;> clean_wf
  | (with_reducible apply ev_div) <;> clean_wf
  | (with_reducible apply ev_pow) <;> clean_wf
  | (with_reducible apply ev_neg) <;> clean_wf
  | (with_reducible apply ev_lt) <;> clean_wf
  | (with_reducible apply ev_le) <;> clean_wf
  | (with_reducible apply ev_gt) <;> clean_wf
  | (with_reducible apply ev_ge) <;> clean_wf
  | (with_reducible apply ev_eqi) <;> clean_wf
  | (with_reducible apply ev_nei) <;> clean_wf
  | (with_reducible apply ev_len) <;> clean_wf
  | (with_reducible apply ev_ixL) <;> clean_wf
  | (with_reducible apply ev_min) <;> clean_wf
  | (with_reducible apply ev_max) <;> clean_wf
  | (with_reducible apply ev_abs) <;> clean_wf
  | (with_reducible apply ev_intB) <;> clean_wf
  | (with_reducible apply ea_1) <;> clean_wf
  | (with_reducible apply ea_2) <;> clean_wf
  | (with_reducible apply ea_3) <;> clean_wf
  | with_reducible exact ea_nil
  | (with_reducible apply ea_cons) <;> clean_wf
  | with_reducible exact el_nil
  | (with_reducible apply ep_lt) <;> clean_wf
  | (with_reducible apply ep_le) <;> clean_wf
  | (with_reducible apply ep_gt) <;> clean_wf
  | (with_reducible apply ep_ge) <;> clean_wf
  | (with_reducible apply ep_eqi) <;> clean_wf
  | (with_reducible apply ep_nei) <;> clean_wf
  | (with_reducible apply ep_not) <;> clean_wf
  | ((with_reducible apply ep_and) <;> first | (intro _; clean_wf; done) | clean_wf)
  | ((with_reducible apply ep_or) <;> first | (intro _; clean_wf; done) | clean_wf)
  | (with_reducible apply et_t) <;> clean_wf
  | (with_reducible apply eo_is) <;> clean_wf
  | with_reducible exact eo_no
  | array_get_dec
  | bv_omega
  | rfl
  | skip)
local macro_rules | `(tactic| symm_saturate) => `(tactic| first
  | ((with_reducible apply q_set); (focus (clean_wf; done)))
  | ((with_reducible apply s_set); (focus (clean_wf; done)))
  | ((with_reducible apply q_aug (hx := rfl)); (focus (clean_wf; done)))
  | ((with_reducible apply s_aug (hx := rfl)); (focus (clean_wf; done)))
  | ((with_reducible apply q_augC (hx := rfl)); (focus (clean_wf; done)))
  | ((with_reducible apply s_augC (hx := rfl)); (focus (clean_wf; done))))
local macro_rules | `(tactic| subst_eqs) => `(tactic| repeat' (first
  | with_reducible apply w_c
  | ((with_reducible apply w_v'); (focus rfl))
  | with_reducible apply w_op
  | with_reducible apply w_cb
  | with_reducible apply w_cons
  | with_reducible apply w_nil
  | with_reducible apply r_add
  | with_reducible apply r_sub
  | ((with_reducible apply r_mul); (focus (bv_omega; done)))
  | ((with_reducible apply r_div); (focus (bv_omega; done)))
  | ((with_reducible apply r_mod); (focus (bv_omega; done)))
  | ((with_reducible apply r_pow); (focus (bv_omega; done)))
  | with_reducible apply r_lt
  | with_reducible apply r_le
  | with_reducible apply r_gt
  | with_reducible apply r_ge
  | with_reducible apply r_min
  | with_reducible apply r_max
  | with_reducible apply r_intB
  | ((with_reducible apply r_len); (focus (array_get_dec; done)))
  | with_reducible apply w_callW
  | with_reducible apply q_setW
  | with_reducible apply s_setW
  | with_reducible apply s_retW))

/-- a row stands at a -/
structure RowAt (H : Hp) (a : Addr) (row : List Nat) : Prop where
  at_ : H a = some (.lst (zv row))
  w : Rw row
  ne : row ≠ []
theorem RowAt.ex {H H' : Hp} {a : Addr} {row : List Nat} (r : RowAt H a row) (e : Ex H H') : RowAt H' a row := ⟨e _ _ r.at_, r.w, r.ne⟩
theorem RowAt.g {H : Hp} {a : Addr} {row : List Nat} (r : RowAt H a row) : Good row := r.w.good
theorem RowAt.sq {K : PySem.W.Frag} {H : Hp} {a : Addr} {row : List Nat} (r : RowAt H a row) : SqL K H a (zv row) := sq_at r.at_
theorem RowAt.len {H : Hp} {a : Addr} {row : List Nat} (r : RowAt H a row) : 0 < row.length ∧ row.length ≤ 6 := ⟨List.length_pos_iff.mpr r.ne, r.w.le⟩
theorem topN_next {row : List Nat} (w : Rw row) (hne : row ≠ []) {n : Nat} (h : n ≤ topN row) : Fits (row.drop 1) (n * 97) ∧ n < 2 ^ 63 := by
  have h0 : 0 < row.length := List.length_pos_iff.mpr hne
  have := w.le
  unfold topN at h
  unfold Fits
  rw [List.length_drop]
  split at h <;> omega
section
variable {K : PySem.W.Frag} {σ : L2.St} {H : Hp} {ta tb tc : TE} {a : Addr} {row : List Nat} {b n lo hi m T : Nat}
open Classical in
theorem e_made [nd : Nod H] (r : RowAt H a row) (ha : Ev ta σ H (.ref a)) (hb : Ev tb σ H (.int (n : Int))) : Ev (tCall (sp_is_made_of K) [] E0 (tCons ta (tCons tb tNil))) σ H (.bl (decide (0 < n ∧ Mk row n))) := ev_call (ea_2 ha hb) fun Q q => ⟨nd, a, row, n, rfl, r.at_, r.w, r.ne, q⟩
theorem e_many [nd : Nod H] (r : RowAt H a row) (f : Fits row b) (ha : Ev ta σ H (.ref a)) (hb : Ev tb σ H (.int (b : Int))) : Ev (tCall (sp_many_to K) [] E0 (tCons ta (tCons tb tNil))) σ H (.int (cnt row b : Int)) := ev_call (ea_2 ha hb) fun Q q => ⟨nd, a, row, b, rfl, r.at_, r.w, r.ne, f, q⟩
theorem e_between [nd : Nod H] (r : RowAt H a row) (f : Fits row hi) (ha : Ev ta σ H (.ref a)) (hb : Ev tb σ H (.int (lo : Int))) (hc : Ev tc σ H (.int (hi : Int))) : Ev (tCall (sp_many_between K) [] E0 (tCons ta (tCons tb (tCons tc tNil)))) σ H (.int (if hi < lo then 0 else (cnt row hi : Int) - (cnt row (lo - 1) : Int))) := ev_call (ea_3 ha hb hc) fun Q q => ⟨nd, a, row, lo, hi, rfl, r.at_, r.w, r.ne, f, q⟩
theorem e_next [nd : Nod H] (r : RowAt H a row) (f : Fits (row.drop 1) (n * 97) ∧ n < 2 ^ 63) (ha : Ev ta σ H (.ref a)) (hb : Ev tb σ H (.int (n : Int))) : Ev (tCall (sp_next_one K) [] E0 (tCons ta (tCons tb tNil))) σ H (.int (nxt row n : Int)) := ev_call (ea_2 ha hb) fun Q q => ⟨nd, a, row, n, rfl, r.at_, r.w, r.ne, f.1, f.2, fun m hm => by rw [nxt_eq hm] at q; exact q⟩
noncomputable def lastV (row : List Nat) (n : Nat) : V := if n < 2 then .non else .int (lst row n : Int)
theorem e_last [nd : Nod H] (r : RowAt H a row) (f : Fits (row.drop 1) (n - 1)) (ha : Ev ta σ H (.ref a)) (hb : Ev tb σ H (.int (n : Int))) : Ev (tCall (sp_last_one K) [] E0 (tCons ta (tCons tb tNil))) σ H (lastV row n) := ev_call (ea_2 ha hb) fun Q q => ⟨nd, a, row, n, rfl, r.at_, r.w, r.ne, f, fun v hv => by
  rcases hv with ⟨h1, rfl⟩ | ⟨m, h1, h2, rfl⟩
  · rw [lastV, if_pos h1] at q; exact q
  · rw [lastV, if_neg (by omega), lst_eq h2] at q; exact q⟩
theorem e_all [nd : Nod H] (r : RowAt H a row) (f : Fits row b) (ha : Ev ta σ H (.ref a)) (hb : Ev tb σ H (.int (b : Int))) : EvL (tCall (sp_all_to K) [] E0 (tCons ta (tCons tb tNil))) σ H (zv (allL row b)) := el_call (ea_2 ha hb) fun Q q => ⟨nd, a, row, b, rfl, r.at_, r.w, r.ne, f, q⟩
theorem e_first [nd : Nod H] (r : RowAt H a row) (hm : m ≤ 9000000 ∧ m ≤ cnt row T) (hT : T < 2 ^ 7000) (ha : Ev ta σ H (.ref a)) (hb : Ev tb σ H (.int (m : Int))) : EvL (tCall (sp_first_ones K) [] E0 (tCons ta (tCons tb tNil))) σ H (zv (fst row m)) := el_call (ea_2 ha hb) fun Q q => ⟨nd, a, row, m, T, rfl, r.at_, r.w, r.ne, hm.1, hm.2, hT, fun p l hp hl => by rw [fst_eq r.g r.ne hl]; exact q p hp⟩
end
/-! ### by place -/
def sp_one_at (K : PySem.W.Frag) : Sp := fun vs H Q _ => Nod H ∧ ∃ (a : Addr) (row : List Nat) (k T : Nat), vs = [.ref a, .int (k : Int)] ∧ RowAt H a row ∧ k < 9000000 ∧ k < cnt row T ∧ T < 2 ^ 7000 ∧ Q (.int (nth row k : Int)) H
/-- slots: row place -/
abbrev n_one_at : List Str := ["row", "place"]
def t_one_at (K : PySem.W.Frag) : TS := (sFg (tSeq (tDrop (tCall (sp_need_row K) [] E0 (tCons (tVar 0) tNil)))
  (tSeq (tIfS (tOr (tNot (tB (tCall (sp_is_whole K) [] E0 (tCons (tVar 1) tNil)))) (tTest (tOp oLt (tVar 1) (tC (.int 0))))) tNever tNext)
  (tRet (tFg (tOp (rIxL K) (tCall (sp_first_ones K) [] E0 (tCons (tVar 0) (tCons (tOp oAdd (tVar 1) (tC (.int 1))) tNil))) (tVar 1)))))))
theorem r_one_at {K : PySem.W.Frag} {vs : List V} {H : Hp} {Q : VK} {E : XK} (h : sp_one_at K vs H Q E) : t_one_at K { nx := fun _ H' => Q .non H', rt := Q } (start n_one_at vs) H := by
  obtain ⟨nd, a, row, k, T, rfl, r, hk, hkT, hT, q⟩ := h
  refine fg_body (need rfl r.at_ r.w r.ne (q_never (ep_or (ep_not (ep_b (ev_call (v := .bl true) (ea_1 (ev_v 1)) fun Q q => ⟨nd, _, rfl, q⟩))) fun _ => by clean_wf) (by simp) ?_))
  refine s_ret (ev_pick (v := .int (nth row k : Int)) (e_first (m := k + 1) (T := T) r ⟨by omega, by omega⟩ hT (ev_v 0) (ev_eq (ev_add (i := (k : Int)) (ev_v 1) ev_c) rfl)) (fun p hp => ev_v 1) ?_) ⟨H, fg_same ex_refl, q⟩
  exact at_of rfl (zv_get (fst_get (by omega)))
def sp_place_of (K : PySem.W.Frag) : Sp := fun vs H Q _ => Nod H ∧ ∃ (a : Addr) (row : List Nat) (n : Nat), vs = [.ref a, .int (n : Int)] ∧ RowAt H a row ∧ Mk row n ∧ Fits row n ∧ Q (.int ((cnt row n - 1 : Nat) : Int)) H
/-- slots: row thing -/
abbrev n_place_of : List Str := ["row", "thing"]
def t_place_of (K : PySem.W.Frag) : TS := (sFg (tSeq (tIfS (tNot (tB (tCall (sp_is_made_of K) [] E0 (tCons (tVar 0) (tCons (tVar 1) tNil))))) tNever tNext)
  (tRet (tOp oSub (tCall (sp_many_to K) [] E0 (tCons (tVar 0) (tCons (tVar 1) tNil))) (tC (.int 1))))))
open Classical in
theorem r_place_of {K : PySem.W.Frag} {vs : List V} {H : Hp} {Q : VK} {E : XK} (h : sp_place_of K vs H Q E) : t_place_of K { nx := fun _ H' => Q .non H', rt := Q } (start n_place_of vs) H := by
  obtain ⟨nd, a, row, n, rfl, r, hm, f, q⟩ := h
  have h0 := mk_pos r.g.ge hm
  have hc := cnt_pos (row := row) h0
  refine fg_body (q_never (ep_not (ep_bd (e_made r (ev_v 0) (ev_v 1)))) (fun z => z ⟨h0, hm⟩) (s_ret (ev_eq (ev_sub (e_many r f (ev_v 0) (ev_v 1)) ev_c) ?_) ⟨H, fg_same ex_refl, q⟩))
  congr 1
  omega
end Px
set_option Elab.async false
set_option linter.all false
set_option maxRecDepth 100000
set_option maxHeartbeats 4000000
/-! sorted(set(xs)), xs a list of ints: after the kit's set of a tuple and its sorted set of few -/
namespace Px
open PySem PySem.Spec PyProof.Rows L2
section
variable {P : Program} {w : World} {A : Around} {E : Value → Shared → Prop} {s : Shared}
/-- the new empty set -/
abbrev eS (w : World) : Obj := { cls := .type "set", dict := none, data := .set #[] 0 (.fresh 0 0 (!w.params.followText "set-order")) }
theorem set_init {l : Addr} {items : Array Value} (ns : List Int) {R : Result → Shared → Prop} (hh : A.handled = none) (hl : s.heap.IsList l items) (hit : IntsAre items.toList ns) (hb : ns.length + 1 < scanBound)
    (h : ∀ (h' : Heap) (tk c : Nat), SetR w h' s.heap.objs.size (fun j => decide (j ∈ ns)) c → c ≤ ns.length → (∀ b o, s.heap.get? b = some o → h'.get? b = some o) → R (.ok (.ret .none)) { s with heap := h', toks := tk }) :
    wpAny (model P w) A.in1 (Builtin.«set.__init__» ⟨[.ref s.heap.objs.size, .ref l], []⟩)
      (fun fin s' => match fin with | .done f => R (.ok f) s' | .again c' => c'.quiet = true ∧ codeAny (model P w) A c' R s') (fun x s' => R (.error x) s') { s with heap := s.heap.push (eS w) } := by
  have hisz : items.size = ns.length := by
    have q := IntsAre.length hit
    rw [Array.length_toList] at q
    exact q
  have hS : (s.heap.push (eS w)).get? s.heap.objs.size = some (eS w) := Heap.get?_push_size _ rfl
  have hT : Shared.TypeIs { s with heap := s.heap.push (eS w) } (.ref s.heap.objs.size) "set" := ⟨_, hS, rfl⟩
  obtain ⟨ol, hol, hcl, nl, hdl⟩ := hl
  obtain ⟨ocls, odict, odata, oslots⟩ := ol
  simp only at hcl hdl
  subst hcl; subst hdl
  have hol' : (s.heap.push (eS w)).get? l = some { cls := .type "list", dict := odict, data := .seq items nl, slots := oslots } := Heap.get?_push_of_some _ hol
  have hsls := F.sub_list_set
  have hslf := F.sub_list_frozenset
  have hne : (Value.type "list" == Value.type "dict") = false := by decide
  have hl1 : (s.heap.push (eS w)).IsList l items := ⟨_, hol', rfl, nl, rfl⟩
  unfold Builtin.«set.__init__» noKeywords Builtin.Frozenset.updateFrom
  generalize hPI : pyIter = PI
  wp_walk
  subst hPI
  refine wpAny_pyIter_list hl1 ?_
  refine wpAny_bind (wpAny_runValue ?_)
  have hlS : l < s.heap.objs.size := Heap.lt_size hol
  have hz1 : (s.heap.push (eS w)).objs.size = s.heap.objs.size + 1 := Heap.size_push ..
  have hneI : l ≠ (s.heap.push (eS w)).objs.size := by rw [hz1]; exact Nat.ne_of_lt (Nat.lt_succ_of_lt hlS)
  have hSf : s.heap.objs.size ∉ [(s.heap.push (eS w)).objs.size, l] := by
    rw [hz1]; simp only [List.mem_cons, List.mem_singleton, List.not_mem_nil, or_false, not_or]
    exact ⟨Nat.ne_of_lt (Nat.lt_succ_self _), Nat.ne_of_gt hlS⟩
  have hval : ∀ (i : Nat) (v : Value), items[i]? = some v → ∃ k t, ns[i]? = some k ∧ v = .int k t := fun i v hv => by
    have hi : i < ns.length := by rw [← hisz]; exact (Array.getElem?_eq_some_iff.mp hv).1
    obtain ⟨t, e⟩ := PyProof.Rows.IntsAre.int_at hit i v (by rw [Array.getElem?_toList]; exact hv)
    refine ⟨ns[i], t, List.getElem?_eq_getElem hi, ?_⟩
    rw [e, List.getD_eq_getElem?_getD, List.getElem?_eq_getElem hi] <;> rfl
  refine set_update_ints ((Walks.list (A := A.in1.in1) hh _ l hneI items).toS) s.heap.objs.size hSf ns hisz hb hval (items.size - 0) 0 _ (by omega) (Nat.zero_le _) ⟨⟨_, Heap.get?_push_size _ rfl, rfl, rfl⟩, (hl1.push _)⟩ ⟨0, Nat.le_refl 0, setR_new_at (Heap.get?_push_of_some _ hS)⟩ ?_
  intro s' c' hm hc' hS'
  obtain ⟨h', g2, d', tk', os'⟩ := s'
  have eg : g2 = s.gens := hm.gens
  have ed : d' = s.drawn := hm.drawn
  have eo : os' = s.os := hm.os
  subst eg; subst ed; subst eo
  show wpAny _ _ _ _ _ _
  refine wpAny_pure ?_
  show wpAny _ _ (ret Value.none) _ _ _
  rw [hisz] at hc'
  refine wpAny_pure (h h' tk' c' hS' hc' fun b o e => ?_)
  have hb0 : b < s.heap.objs.size := Heap.lt_size e
  exact hm.heap b o (by simp only [List.mem_cons, List.mem_singleton, List.not_mem_nil, or_false, not_or]; exact ⟨Nat.ne_of_lt hb0, by rw [hz1]; exact Nat.ne_of_lt (Nat.lt_succ_of_lt hb0)⟩) (Heap.get?_push_of_some _ (Heap.get?_push_of_some _ e))
theorem set_list {l : Addr} {items : Array Value} (ns : List Int) {Q : Value → Shared → Prop} (hh : A.handled = none) (hl : s.heap.IsList l items) (hit : IntsAre items.toList ns) (hb : ns.length + 1 < scanBound)
    (h : ∀ (h' : Heap) (tk c : Nat), SetR w h' s.heap.objs.size (fun j => decide (j ∈ ns)) c → c ≤ ns.length → (∀ b o, s.heap.get? b = some o → h'.get? b = some o) → Q (.ref s.heap.objs.size) { s with heap := h', toks := tk }) :
    wpAny (model P w) A (call (.type "set") [.ref l]) Q E s := by
  obtain ⟨c, tl, hmro⟩ := F.called_set.mro
  have hmade := F.called_set.made
  have hsub := F.called_set.sub
  refine wpAny_call (codeAny_of_tree ?_)
  show wpAny _ _ (callAny (.type "set") _) _ _ _
  refine wpAny_pure ⟨Code.quiet_builtin _ (by decide +kernel), codeAny_builtin F.entry_type_call ?_⟩
  rw [Around.under_plain (weight_type_call_type "set" [.ref l] []) rfl]
  have h1 := F.called_set.notType
  have h2 := F.called_set.canCreate
  have hct := F.typeCall_set_1 (.ref l)
  repeat (any_goals (first | assumption | wp_step))
  refine codeAny_mono (code_set_led1 (.ref l) (E := E) (Q₁ := fun obj s₁ => obj = .ref s.heap.objs.size ∧ s₁ = { s with heap := s.heap.push (eS w) }) ⟨rfl, rfl⟩) fun r s₁ hr => ?_
  cases r with
  | error e => exact hr
  | ok fl =>
    cases fl with
    | ret obj =>
      obtain ⟨rfl, rfl⟩ := hr
      have hT : Shared.TypeIs { s with heap := s.heap.push (eS w) } (.ref s.heap.objs.size) "set" := ⟨_, Heap.get?_push_size _ rfl, rfl⟩
      have hli := F.called_set.init.lookup
      have hbi := F.called_set.init.bind (.ref s.heap.objs.size)
      repeat (any_goals (first | assumption | wp_step))
      refine codeAny_mono (codeAny_call_builtin (R := wants (fun r s₂ => r = .none ∧ ∃ h' tk c, s₂ = { s with heap := h', toks := tk } ∧ SetR w h' s.heap.objs.size (fun j => decide (j ∈ ns)) c ∧ c ≤ ns.length ∧
          (∀ b o, s.heap.get? b = some o → h'.get? b = some o)) E) F.called_set.init.plain F.entry_set_init (check_set_init_1 hT ?_)) fun r₂ s₂ hr₂ => ?_
      · exact set_init ns (by simp [hh]) hl hit hb fun h' tk c k1 k2 k3 => ⟨rfl, h', tk, c, rfl, k1, k2, k3⟩
      · cases r₂ with
        | error e => exact hr₂
        | ok fl₂ =>
          cases fl₂ with
          | ret r =>
            obtain ⟨rfl, h', tk, c', rfl, hS', hc', hk'⟩ := hr₂
            repeat (any_goals (first | assumption | wp_step))
            exact h _ _ _ hS' hc' hk'
          | _ => exact hr₂.elim
    | _ => exact hr.elim
theorem sorted_setO {a : Addr} {S : Int → Bool} {n : Nat} {Q : Value → Shared → Prop} (R : SetR w s.heap a S n) (hh : A.handled = none)
    (hQ : ∀ s' p (out : List Value) (c : Nat) (ns : List Int), (∀ b o, s.heap.get? b = some o → s'.heap.get? b = some o) → s'.gens = s.gens → s'.os = s.os → s.heap.objs.size ≤ p →
      s'.heap.get? p = some (seqObj "list" out.toArray c) → IntsAre out ns → ns.Pairwise (· < ·) → (∀ k, k ∈ ns ↔ S k = true) → ns.length = n → Q (.ref p) s') :
    wpAny (model P w) A (call (.builtin "sorted") [.ref a]) Q E s := by
  obtain ⟨o, es, ep, t, ho, hex, hd, g, nd, hm, hb, hf, hn, hr, hl⟩ := R
  refine Calls.call_function_entry kind_sorted plain_sorted entry_sorted (args_sorted1 _) ?_
  unfold Builtin.«sorted»
  refine wpAny_bind (m := checkCount "sorted" 1 1 _) (wpAny_pure ?_)
  refine wpAny_bind (collect_set (A := A.in1) hh ⟨o, ho, hex.1, hd⟩ hf hb hr hl fun s1 vs k1 hz g1 o1 pm => ?_)
  have hvl : vs.length = n := by rw [pm.length_eq, List.length_map, Array.length_toList]; exact hn
  have hvs : vs.length ≤ sizeLine := by rw [hvl, ← hn]; exact fits_of_scanBound hb
  have hI : IntsAre vs (vs.map Builtin.Re.reRawOf) := ints_of vs fun v hv => by
    obtain ⟨e, he, q⟩ := List.mem_map.mp (pm.mem_iff.mp hv)
    obtain ⟨k, tk, h1, _⟩ := g e he
    exact ⟨k, tk, by rw [← q]; exact h1⟩
  have pk : (vs.map Builtin.Re.reRawOf).Perm (es.toList.map keyOf) := by
    have q := pm.map Builtin.Re.reRawOf
    rw [List.map_map] at q
    exact q
  refine wpAny_bind (wpAny_newList ?_ hvs)
  have hoL : (s1.heap.push (seqObj "list" vs.toArray 0)).get? s1.heap.objs.size = some (seqObj "list" vs.toArray 0) := Heap.get?_push_size _ rfl
  refine wpAny_bind (wpAny_holding (wpAny_call_entry slot_list_sort ⟨_, hoL, rfl⟩ entry_list_sort (SrtO.list_sort_ord SrtO.swo_int hoL hvs (fun h2 => SrtO.ints_sortable hI h2) fun out b1 b2 => ⟨_, rfl, ?_⟩) (args_list_sort _)))
  obtain ⟨a1, a2, a3⟩ := SrtO.ints_out hI b1 b2
  obtain ⟨c, hc⟩ := sortedHeap_at (vs := vs) (out := out.toArray) hoL
  have pn : (out.map SrtO.iv).Perm (es.toList.map keyOf) := a2.trans pk
  refine wpAny_pure ⟨_, rfl, hQ _ s1.heap.objs.size out c _ (fun b u e => ?_) g1 o1 hz hc a1 (lt_of_le_nodup _ a3 (pn.nodup_iff.mpr nd)) (fun k => by rw [pn.mem_iff, ← hm k]) ?_⟩
  · have q := k1 b u e
    have hlt := Heap.lt_size q
    show (sortedHeap (s1.heap.push (seqObj "list" vs.toArray 0)) s1.heap.objs.size vs out.toArray).get? b = some u
    rw [sortedHeap_old (Nat.ne_of_lt hlt) (by rw [size_push']; exact Nat.lt_succ_of_lt hlt)]
    exact Heap.get?_push_of_some _ q
  · rw [pn.length_eq, List.length_map, Array.length_toList]; exact hn
end
/-- sorted(set(e)) -/
def tSortSet (K : PySem.W.Frag) (ta : TA) : TE := fun σ H Q => ta σ H fun vs H1 => ∃ (a : Addr) (ns : List Int), vs = [.ref a] ∧ SqL K H1 a (ns.map V.int) ∧ ns.length ≤ 4000 ∧
  ∀ (p : Addr) (ns' : List Int), H1 p = none → ns'.Pairwise (· < ·) → (∀ k, k ∈ ns' ↔ k ∈ ns) → Q (.ref p) (upd H1 p (.lst (ns'.map V.int)))
theorem pe_sortSet {X : Cx} {e : Expr} {ta : TA} {p1 p2 pos1 pos2 : Pos} (hg1 : Gl X "sorted") (hm1 : X.mg "sorted" = none) (hg2 : Gl X "set") (hm2 : X.mg "set" = none) (hc : X.calm = true) (ha : PA X [e] ta) (hs : starEach [e] X.env = [(false, eval e X.env)] := by rfl)
    (hs2 : starEach [.Call (.Name "set" p2) [e] [] pos2] X.env = [(false, eval (.Call (.Name "set" p2) [e] [] pos2) X.env)] := by rfl) :
    PE X (.Call (.Name "sorted" p1) [.Call (.Name "set" p2) [e] [] pos2] [] pos1) (tSortSet X.K ta) := by
  refine ⟨fun pins s σ H Q I h => ?_⟩
  refine wpAny_Call_Name_kw (ld_blt I hg1 hm1 (show bootBuiltins "sorted" = some (.builtin "sorted") by decide +kernel) ?_ (by decide) (by decide))
  refine PyProof.Rows.callWith_builtin1 ?_ hs2 rfl
  rw [hs2]
  refine Calls.spliced_cons (thn (Q := fun v s1 => wpAny (model X.prog X.w) X.A (call (.builtin "sorted") [v]) (EP X pins σ Q) X.xe s1) ?_ fun v s1 h1 => Calls.spliced_nil h1)
  refine wpAny_Call_Name_kw (ld_blt I hg2 hm2 PyProof.Rows.boot_set ?_ (by decide) (by decide))
  refine PyProof.Rows.callWith_type1 (thn (ha.run pos2 pins s σ H _ I h) fun us s1 ⟨vs, H1, I1, r1, q1⟩ => ?_) hs rfl
  obtain ⟨a, ns, ex, hq, hl, q⟩ := q1
  subst ex
  cases r1 with
  | cons r rr =>
    cases rr
    cases r
    obtain ⟨its, rv, p', hz⟩ := I1.list hq
    have hi : IntsAre its.toArray.toList ns := rv.ints
    have hd := I1.ok.hd hc
    refine set_list ns hd p'.isList hi (by unfold scanBound; omega) fun h' tk c R1 hcn k => ?_
    refine sorted_setO (s := { s1 with heap := h', toks := tk }) R1 hd fun s2 p out c2 ns' k2 g2 o2 hp hob hI hpw hmem hlen => ?_
    have kall : ∀ b u, s1.heap.get? b = some u → s2.heap.get? b = some u := fun b u e => k2 b u (k b u e)
    have hlt : s1.heap.objs.size < h'.objs.size := R1.lt
    have hle : s1.heap.objs.size ≤ p := Nat.le_trans (Nat.le_of_lt hlt) hp
    have hln : H1 p = none := I1.hok.fresh hle
    refine ⟨.ref p, upd H1 p (.lst (ns'.map V.int)), ?_, rfl, q p ns' hln hpw fun j => by rw [hmem j, decide_eq_true_eq]⟩
    have hlen2 : (ns'.map V.int).length ≤ sizeLine := by rw [List.length_map, hlen, sizeLine_eq]; omega
    exact I1.call' (ch := []) o2 (Un.laid kall hle hln) (I1.hok.laid kall hle ⟨hlen2, out, c2, vals_of_ints hI, hob⟩) (by rw [g2]; exact I1.bare) (fun _ z => nomatch z)
end Px
set_option Elab.async false
set_option linter.all false
set_option maxRecDepth 100000
set_option maxHeartbeats 4000000
namespace Px
open PySem L2 MA
section
variable {K : PySem.W.Frag} {σ : L2.St} {H : Hp} {ta te : TE}
theorem zl_lt {ns : List Int} {l : List Nat} (h : ∀ k, k ∈ ns ↔ k ∈ zl l) (hp : ns.Pairwise (· < ·)) : ∃ l' : List Nat, ns = zl l' ∧ l'.Pairwise (· < ·) ∧ ∀ n, n ∈ l' ↔ n ∈ l := by
  have h0 : ∀ k ∈ ns, ((k.toNat : Nat) : Int) = k := fun k hk => by
    obtain ⟨n, _, rfl⟩ := List.mem_map.mp ((h k).mp hk)
    simp
  have e : ns = zl (ns.map Int.toNat) := by
    show ns = (ns.map Int.toNat).map (fun (x : Nat) => (x : Int))
    rw [List.map_map]
    exact (List.map_congr_left (g := id) (fun k hk => h0 k hk)).trans (List.map_id _) |>.symm
  refine ⟨ns.map Int.toNat, e, ?_, fun n => ?_⟩
  · rw [List.pairwise_map]
    refine hp.imp_of_mem fun {x y} hx hy hxy => ?_
    have := h0 x hx
    have := h0 y hy
    omega
  · constructor
    · intro hn
      obtain ⟨k, hk, rfl⟩ := List.mem_map.mp hn
      obtain ⟨n, hn, e⟩ := List.mem_map.mp ((h k).mp hk)
      rw [← e]; simpa using hn
    · intro hn
      exact List.mem_map.mpr ⟨(n : Int), (h _).mpr (List.mem_map.mpr ⟨n, hn, rfl⟩), by simp⟩
theorem w_sortSet {a : Addr} {l : List Nat} {Q : VK} (h : Ev te σ H (.ref a)) (hx : SqL K H a (zv l)) (hz : l.length ≤ 4000) (k : ∀ p l', H p = none → l'.Pairwise (· < ·) → (∀ n, n ∈ l' ↔ n ∈ l) → Q (.ref p) (upd H p (.lst (zv l')))) : tSortSet K (tCons te tNil) σ H Q :=
  ea_1 h _ ⟨a, zl l, rfl, hx, by rw [zl_len]; exact hz, fun p ns' hp hw hk => by
    obtain ⟨l', rfl, h1, h2⟩ := zl_lt hk hw
    exact k p l' hp h1 h2⟩
end
end Px
set_option Elab.async false
set_option linter.all false
set_option maxRecDepth 100000
set_option maxHeartbeats 4000000
namespace Px
open PySem L2 MA
def SS (K : PySem.W.Frag) (vs : List V) (H : Hp) (Q : VK) : Prop := ∃ (a : Addr) (ns : List Int), vs = [.ref a] ∧ SqL K H a (ns.map V.int) ∧ ns.length ≤ 4000 ∧
  ∀ (p : Addr) (ns' : List Int), H p = none → ns'.Pairwise (· < ·) → (∀ k, k ∈ ns' ↔ k ∈ ns) → Q (.ref p) (upd H p (.lst (ns'.map V.int)))
section
variable {K : PySem.W.Frag} {σ : L2.St} {H : Hp} {ta tb te : TE} {Q : VK}
theorem w_ssW (h : te σ H fun v H1 => SS K [v] H1 Q) : tSortSet K (tCons te tNil) σ H Q := h
theorem ss_of {a : Addr} {l : List Nat} (hx : SqL K H a (zv l)) (hz : l.length ≤ 4000) (k : ∀ p l', H p = none → l'.Pairwise (· < ·) → (∀ n, n ∈ l' ↔ n ∈ l) → Q (.ref p) (upd H p (.lst (zv l')))) : SS K [.ref a] H Q :=
  ⟨a, zl l, rfl, hx, by rw [zl_len]; exact hz, fun p ns' hp hw hk => by
    obtain ⟨l', rfl, h1, h2⟩ := zl_lt hk hw
    exact k p l' hp h1 h2⟩
theorem w_next {D : Ends} (h : D.nx σ H) : tNext D σ H := h
theorem w_slW {tl th : TO} (h : te σ H fun x H1 => tl σ H1 fun lo H2 => th σ H2 fun hi H3 => rSlL K x lo hi H3 Q) : tSl (rSlL K) te tl th σ H Q := h
/-- a test that leaves something behind: what holds behind it is told once -/
theorem w_via {T : (Bool → Hp → Prop) → Prop} {R : Bool → Hp → Prop} (I : Hp → Prop) (b : Bool) (h : ∀ R' : Bool → Hp → Prop, (∀ H5, I H5 → R' b H5) → T R') (k : ∀ H5, I H5 → R b H5) : T R := h R k
theorem ev_in {l : List Nat} {x : Nat} {p : Addr} (ha : Ev ta σ H (.int (x : Int))) (hb : Ev tb σ H (.ref p)) (s : SqL K H p (zv l)) : Ev (tOp (rIn K false) ta tb) σ H (.bl (decide (x ∈ l))) :=
  ev_op ha hb fun Q q => ⟨p, zv l, rfl, .inl s, rfl, zv_flat _, by
    rw [inV_iff]
    exact q⟩
theorem ev_nin {l : List Nat} {x : Nat} {p : Addr} (ha : Ev ta σ H (.int (x : Int))) (hb : Ev tb σ H (.ref p)) (s : SqL K H p (zv l)) : Ev (tOp (rIn K true) ta tb) σ H (.bl (!decide (x ∈ l))) :=
  ev_op ha hb fun Q q => ⟨p, zv l, rfl, .inl s, rfl, zv_flat _, by
    rw [inV_iff]
    exact q⟩
end
/-- filters by a test of naturals -/
theorem filt_nat (P : Nat → Bool) (p : Int → Bool) : ∀ l : List Nat, (∀ x ∈ l, p (x : Int) = P x) → (((zl l).filter p).map fun j => j) = zl (l.filter P)
  | [], _ => rfl
  | y :: r, hp => by
    have ih := filt_nat P p r fun x hx => hp x (List.mem_cons_of_mem _ hx)
    show ((((y : Int) :: zl r).filter p).map fun j => j) = _
    have e := hp y List.mem_cons_self
    by_cases h : P y = true
    · rw [List.filter_cons_of_pos (by rw [e]; exact h), List.filter_cons_of_pos h, List.map_cons, ih]; rfl
    · rw [List.filter_cons_of_neg (by rw [e]; exact h), List.filter_cons_of_neg h, ih]
end Px
set_option Elab.async false
set_option linter.all false
set_option maxRecDepth 100000
set_option maxHeartbeats 4000000
namespace Px
open PySem L2
section
variable {K : PySem.W.Frag} {σ : L2.St} {H : Hp} {te : TE} {Q : VK} {D : Ends} {s1 s2 s3 : TS}
/-- what holds behind one statement, behind two -/
theorem q_oneI (I : L2.St → Hp → Prop) (h : ∀ N : L2.St → Hp → Prop, (∀ σ' H', I σ' H' → N σ' H') → s1 { D with nx := N } σ H) (k : ∀ σ' H', I σ' H' → s2 D σ' H') : tSeq s1 s2 D σ H := h _ k
theorem q_twoI (I : L2.St → Hp → Prop) (h : ∀ N : L2.St → Hp → Prop, (∀ σ' H', I σ' H' → N σ' H') → tSeq s1 s2 { D with nx := N } σ H) (k : ∀ σ' H', I σ' H' → s3 D σ' H') : tSeq s1 (tSeq s2 s3) D σ H := h _ k
theorem w_rev (h : te σ H fun x H1 => ∃ a xs, x = .ref a ∧ SqL K H1 a xs ∧ ∀ p, H1 p = none → Q (.ref p) (upd H1 p (.lst xs.reverse))) : tRevL K te σ H Q := h
end
end Px
set_option Elab.async false
set_option linter.all false
set_option maxRecDepth 100000
set_option maxHeartbeats 4000000
namespace Px
open PySem L2 MA
/-! ### a wider base -/
open Classical in
noncomputable def keepS (B H' : Hp) (S : List Addr) : Hp := fun a => if a ∈ S then H' a else B a
section
variable {K : PySem.W.Frag} {B B' H H' : Hp} {L : List (Addr × List V)} {S : List Addr}
theorem keepS_in {b : Addr} (h : b ∈ S) : keepS B H' S b = H' b := if_pos h
theorem keepS_off {b : Addr} (h : b ∉ S) : keepS B H' S b = B b := if_neg h
theorem keepS_ex (hS : ∀ b ∈ S, B b = none) : Ex B (keepS B H' S) := fun b o h => by rw [keepS_off (fun z => by rw [hS b z] at h; cases h)]; exact h
theorem keepS_sub (e : Ex B H') : Ex (keepS B H' S) H' := fun b o h => by
  by_cases z : b ∈ S
  · rw [keepS_in z] at h; exact h
  · rw [keepS_off z] at h; exact e b o h
theorem Own.keepB (o : Own B L H) (e : Ex H H') (n : Nod H') (S : List Addr) (hS : ∀ b ∈ S, H b = none) : Own (keepS B H' S) L H' where
  nod := n
  ex := keepS_sub (ex_trans o.ex e)
  off := fun q hq => by
    rw [keepS_off (fun z => by have := o.has q hq; rw [hS _ z] at this; cases this)]
    exact o.off q hq
  dis := o.dis
  has := fun q hq => e _ _ (o.has q hq)
theorem Own.weak (o : Own B' L H) (e : Ex B B') : Own B L H where
  nod := o.nod
  ex := ex_trans e o.ex
  off := fun q hq => ex_none e (o.off q hq)
  dis := o.dis
  has := o.has
theorem fg_keepS [n : Nod H] (e : Ex H H') (hS : ∀ b ∈ S, H b = none ∧ ∃ o, fresh o ∧ H' b = some o) : Fg H H' (keepS H H' S) := by
  refine fg_gen (fun a => a ∈ S) (fun a o h z => ⟨e a o h, by rw [keepS_off z]; exact h⟩) (fun a z => ?_) (fun a h z => by rw [keepS_off z]; exact h)
  obtain ⟨h0, o, f, h1⟩ := hS a z
  exact ⟨o, f, h1, by rw [keepS_in z]; exact h1, fun u hu => by rw [h0] at hu; cases hu⟩
theorem keepS_nod [n : Nod H] (hS : ∀ b ∈ S, ∃ o, fresh o ∧ H' b = some o) : Nod (keepS H H' S) := ⟨fun a o h => by
  by_cases z : a ∈ S
  · rw [keepS_in z] at h
    obtain ⟨u, f, e⟩ := hS a z
    rw [e] at h; cases h
    exact fresh_flat f
  · rw [keepS_off z] at h; exact n.nod a o h⟩
end
/-! ### a list of pairs of ints -/
abbrev pvals (q : Int × Int) : List V := [.int q.1, .int q.2]
structure Prs (H : Hp) (p : Addr) (as : List Addr) (qs : List (Int × Int)) : Prop where
  lst : H p = some (.lst (as.map V.ref))
  len : as.length = qs.length
  tup : ∀ (i : Nat) (b : Addr) (q : Int × Int), as[i]? = some b → qs[i]? = some q → H b = some (.tup (pvals q))
theorem Prs.ex {H H' : Hp} {p : Addr} {as : List Addr} {qs : List (Int × Int)} (c : Prs H p as qs) (e : Ex H H') : Prs H' p as qs := ⟨e _ _ c.lst, c.len, fun i b x h1 h2 => e _ _ (c.tup i b x h1 h2)⟩
theorem Prs.keep {B H' : Hp} {p : Addr} {as S : List Addr} {qs : List (Int × Int)} (c : Prs H' p as qs) (h1 : p ∈ S) (h2 : ∀ b ∈ as, b ∈ S) : Prs (keepS B H' S) p as qs := ⟨by rw [keepS_in h1]; exact c.lst, c.len, fun i b x e1 e2 => by rw [keepS_in (h2 b (List.mem_of_getElem? e1))]; exact c.tup i b x e1 e2⟩
theorem Prs.all {H : Hp} {p : Addr} {as : List Addr} {qs : List (Int × Int)} (c : Prs H p as qs) : ∀ b ∈ p :: as, ∃ o, fresh o ∧ H b = some o := fun b hb => by
  rcases List.mem_cons.mp hb with rfl | hb
  · exact ⟨.lst (as.map V.ref), trivial, c.lst⟩
  · obtain ⟨i, hi⟩ := List.mem_iff_getElem?.mp hb
    have hlt : i < qs.length := by rw [← c.len]; exact (List.getElem?_eq_some_iff.mp hi).1
    exact ⟨.tup (pvals qs[i]), trivial, c.tup i b _ hi (List.getElem?_eq_getElem hlt)⟩
theorem Prs.get {H : Hp} {p : Addr} {as : List Addr} {qs : List (Int × Int)} (c : Prs H p as qs) {i : Nat} {v : V} (h : (as.map V.ref)[i]? = some v) : ∃ (b : Addr) (q : Int × Int), as[i]? = some b ∧ v = .ref b ∧ qs[i]? = some q ∧ H b = some (.tup (pvals q)) := by
  rw [List.getElem?_map] at h
  cases e : as[i]? with
  | none => rw [e] at h; cases h
  | some b =>
    rw [e] at h
    cases h
    have hlt : i < qs.length := by rw [← c.len]; exact (List.getElem?_eq_some_iff.mp e).1
    exact ⟨b, qs[i], rfl, rfl, List.getElem?_eq_getElem hlt, c.tup i b _ e (List.getElem?_eq_getElem hlt)⟩
abbrev pd (q : Int × Int) : PyData := .tuple [.int q.1, .int q.2]
theorem lay_pairs : ∀ qs : List (Int × Int), PyData.canLayAll0 (qs.map pd) = true
  | [] => by simp [PyData.canLayAll0]
  | q :: r => by simp [PyData.canLayAll0, PyData.canLay0, lay_pairs r]
theorem dep_pairs : ∀ qs : List (Int × Int), PyData.depthAll (qs.map pd) ≤ 1
  | [] => by simp [PyData.depthAll]
  | q :: r => by
    have := dep_pairs r
    simp [PyData.depthAll, PyData.depth, this]
theorem shaped_pairs (qs : List (Int × Int)) : SeqAt.shaped (.list (qs.map pd)) = true := by
  unfold SeqAt.shaped
  have := dep_pairs qs
  rw [PyData.canLay0, lay_pairs, PyData.depth]
  simp only [Bool.true_and, decide_eq_true_eq]
  omega
theorem shaped_pair (q : Int × Int) : SeqAt.shaped (pd q) = true := by
  unfold SeqAt.shaped
  simp [PyData.canLay0, PyData.canLayAll0, PyData.depth, PyData.depthAll]
theorem eqv_pair (q q' : Int × Int) : PyData.eqv (pd q) (pd q') = decide (q = q') := by
  obtain ⟨a, b⟩ := q
  obtain ⟨c, d⟩ := q'
  simp only [PyData.eqv, PyData.eqvAll]
  by_cases h : a = c
  · subst h
    by_cases h2 : b = d
    · subst h2; simp
    · simp [h2]
  · simp [h]
theorem eqv_pairs : ∀ qs qs' : List (Int × Int), PyData.eqvAll (qs.map pd) (qs'.map pd) = decide (qs = qs')
  | [], [] => by simp [PyData.eqvAll]
  | [], _ :: _ => by simp [PyData.eqvAll]
  | _ :: _, [] => by simp [PyData.eqvAll]
  | q :: r, q' :: r' => by
    simp only [List.map_cons, PyData.eqvAll, eqv_pair, eqv_pairs r r']
    by_cases h : q = q'
    · subst h
      by_cases h2 : r = r'
      · subst h2; simp
      · simp [h2]
    · simp [h]
section
variable {K : PySem.W.Frag} {σ : L2.St} {H : Hp}
theorem dp_pair {b : Addr} {q : Int × Int} (h : H b = some (.tup (pvals q))) : Dp K H (.ref b) (pd q) := .tup (st_at h) (.cons (.int _) (.cons (.int _) .nil))
theorem dp_pairs : ∀ (as : List Addr) (qs : List (Int × Int)), as.length = qs.length → (∀ (i : Nat) (b : Addr) (q : Int × Int), as[i]? = some b → qs[i]? = some q → H b = some (.tup (pvals q))) → DpAll K H (as.map V.ref) (qs.map pd)
  | [], [], _, _ => .nil
  | [], _ :: _, h, _ => by cases h
  | _ :: _, [], h, _ => by cases h
  | b :: as, q :: qs, h, hs => .cons (dp_pair (hs 0 b q rfl rfl)) (dp_pairs as qs (by simpa using h) fun i b' q' h1 h2 => hs (i + 1) b' q' (by simpa using h1) (by simpa using h2))
theorem Prs.dp {p : Addr} {as : List Addr} {qs : List (Int × Int)} (c : Prs H p as qs) : Dp K H (.ref p) (.list (qs.map pd)) := .lst (sq_at c.lst) (dp_pairs as qs c.len c.tup)
theorem rv_eqP {a b : Addr} {as bs : List Addr} {qs qs' : List (Int × Int)} (ha : Prs H a as qs) (hb : Prs H b bs qs') : RV (rEqD K) (.ref a) (.ref b) H (.bl (decide (qs = qs'))) := fun Q q =>
  ⟨_, _, ha.dp, hb.dp, shaped_pairs qs, shaped_pairs qs', by rw [PyData.eqv, eqv_pairs]; exact q⟩
theorem rv_neP {a b : Addr} {as bs : List Addr} {qs qs' : List (Int × Int)} (ha : Prs H a as qs) (hb : Prs H b bs qs') : RV (rNeD K) (.ref a) (.ref b) H (.bl (!decide (qs = qs'))) := fun Q q =>
  ⟨_, _, ha.dp, hb.dp, shaped_pairs qs, shaped_pairs qs', by rw [PyData.eqv, eqv_pairs]; exact q⟩
theorem rv_neT {a b : Addr} {q q' : Int × Int} (ha : H a = some (.tup (pvals q))) (hb : H b = some (.tup (pvals q'))) : RV (rNeD K) (.ref a) (.ref b) H (.bl (!decide (q = q'))) := fun Q z =>
  ⟨_, _, dp_pair ha, dp_pair hb, shaped_pair q, shaped_pair q', by rw [eqv_pair]; exact z⟩
theorem Prs.nil {p : Addr} (h : H p = some (.lst [])) : Prs H p [] [] := ⟨h, rfl, fun i b q h1 _ => by simp at h1⟩
/-- a comprehension over a list, any target -/
theorem w_lcG {tl te : TE} {t : TT} {g : TG} {Q : VK} {a : Addr} {xs : List V} {vs : List Nat} (h : Ev tl σ H (.ref a)) (hx : SqL K H a xs) (Pv : Addr → Nat → Hp → Prop) (h0 : ∀ D, H D = none → Pv D 0 (upd H D (.lst []))) (hl : ∀ D i H', H D = none → Pv D i H' → SqL K H' a xs)
    (hs : ∀ D (i : Nat) x H', H D = none → xs[i]? = some x → Pv D i H' → g x (wipe σ vs) H' fun σ2 H2 => wipe σ2 vs = wipe σ vs ∧ t σ2 H2 fun b H3 => if b = true then te σ2 H3 fun y H4 => ∃ acc, H4 D = some (.lst acc) ∧ acc.length < sizeLine ∧ Pv D (i + 1) (upd H4 D (.lst (acc ++ [y]))) else Pv D (i + 1) H3)
    (hd : ∀ D H', H D = none → Pv D xs.length H' → Q (.ref D) H') : tLc (iList K tl) g t te vs σ H Q := h _ ⟨a, rfl, ⟨xs, hx⟩, fun D hD =>
  lc_list (xs := xs) (Pv D) (h0 D hD) (fun i H' _ hv => hl D i H' hD hv) (fun i x H' hi hv => hs D i x H' hD hi hv) (fun H' hv => hd D H' hD hv)⟩
theorem lcat_list {te : TE} {t : TT} {g : TG} {Q : VK} {a : Addr} {xs : List V} {vs : List Nat} {H1 : Hp} (Pv : Addr → Nat → Hp → Prop) (h0 : ∀ D, H1 D = none → Pv D 0 (upd H1 D (.lst []))) (hl : ∀ D i H', H1 D = none → Pv D i H' → SqL K H' a xs)
    (hs : ∀ D (i : Nat) x H', H1 D = none → xs[i]? = some x → Pv D i H' → g x (wipe σ vs) H' fun σ2 H2 => wipe σ2 vs = wipe σ vs ∧ t σ2 H2 fun b H3 => if b = true then te σ2 H3 fun y H4 => ∃ acc, H4 D = some (.lst acc) ∧ acc.length < sizeLine ∧ Pv D (i + 1) (upd H4 D (.lst (acc ++ [y]))) else Pv D (i + 1) H3)
    (hd : ∀ D H', H1 D = none → Pv D xs.length H' → Q (.ref D) H') : LcAt (Itl K a) g t te vs σ Q H1 := fun D hD =>
  lc_list (xs := xs) (Pv D) (h0 D hD) (fun i H' _ hv => hl D i H' hD hv) (fun i x H' hi hv => hs D i x H' hD hi hv) (fun H' hv => hd D H' hD hv)
/-- [part for part in t if ..], t a tuple -/
theorem w_lcT {tl te : TE} {t : TT} {Q : VK} {a : Addr} {xs : List V} {vs : List Nat} {n : Nat} (h : Ev tl σ H (.ref a)) (hx : SqT K H a xs) (Pv : Addr → Nat → Hp → Prop) (h0 : ∀ D, H D = none → Pv D 0 (upd H D (.lst []))) (hl : ∀ D i H', H D = none → Pv D i H' → SqT K H' a xs) (hw : ∀ x, wipe ((wipe σ vs).set n (some x)) vs = wipe σ vs)
    (hs : ∀ D (i : Nat) x H', H D = none → xs[i]? = some x → Pv D i H' → t ((wipe σ vs).set n (some x)) H' fun b H3 => if b = true then te ((wipe σ vs).set n (some x)) H3 fun y H4 => ∃ acc, H4 D = some (.lst acc) ∧ acc.length < sizeLine ∧ Pv D (i + 1) (upd H4 D (.lst (acc ++ [y]))) else Pv D (i + 1) H3)
    (hd : ∀ D H', H D = none → Pv D xs.length H' → Q (.ref D) H') : tLc (iTup K tl) (gName n) t te vs σ H Q := h _ ⟨a, rfl, ⟨xs, hx⟩, fun D hD =>
  lc_tup (xs := xs) (Pv D) (h0 D hD) (fun i H' _ hv => hl D i H' hD hv) (fun i x H' hi hv => ⟨hw x, hs D i x H' hD hi hv⟩) (fun H' hv => hd D H' hD hv)⟩
theorem w_tupW {t : TA} {Q : VK} (h : t σ H fun xs H1 => xs.length ≤ sizeLine ∧ ∀ p, H1 p = none → Q (.ref p) (upd H1 p (.tup xs))) : tTup t σ H Q := h
/-- a, b = t: the target of a for, of a comprehension, over pairs -/
theorem g_pair {n1 n2 : Nat} {b : Addr} {q : Int × Int} {Q : L2.St → Hp → Prop} (h : H b = some (.tup (pvals q))) (k : Q ((σ.set n1 (some (.int q.1))).set n2 (some (.int q.2))) H) : gTup K 2 (gCons (gName n1) (gCons (gName n2) gNil)) (.ref b) σ H Q :=
  ⟨b, _, rfl, st_at h, rfl, _, _, rfl, _, _, rfl, rfl, k⟩
end
theorem Own.tupB {B H : Hp} {L : List (Addr × List V)} {t : Addr} {xs : List V} (o : Own B L H) (ht : H t = none) : Own (upd B t (.tup xs)) L (upd H t (.tup xs)) where
  nod := have := o.nod; inferInstance
  ex := fun b u hb => by
    by_cases e : b = t
    · subst e; rw [upd_same] at hb ⊢; exact hb
    · rw [upd_ne e] at hb ⊢; exact o.ex b u hb
  off := fun q hq => by rw [upd_ne (ne_of_none (o.has q hq) ht)]; exact o.off q hq
  dis := o.dis
  has := fun q hq => by rw [upd_ne (ne_of_none (o.has q hq) ht)]; exact o.has q hq
end Px
set_option Elab.async false
set_option linter.all false
set_option maxRecDepth 100000
set_option maxHeartbeats 4000000
/-! dicts of ints: d.items(), sorted(d.items()), sorted(d), any number of entries -/
namespace Px
open PySem PySem.Spec PyProof.Rows L2
section
variable {X : Cx}
def rItemsK : V → List V → Hp → VK → Prop := fun x xs H Q => ∃ (a : Addr) (kvs : List (Key × V)), x = .ref a ∧ xs = [] ∧ H a = some (.dK kvs) ∧ ∀ p, H p = none → Q (.ref p) (upd H p (L2.DX.itemsO p a))
theorem mt_itemsK : MtR X "dict.items" rItemsK := by
  intro pins s σ H x xs v us Q I rx rxs h
  obtain ⟨a, kvs, rfl, rfl, ha, q⟩ := h
  cases rx
  cases rxs
  obtain ⟨z, hd, vs, rel, dd⟩ := dk_of I.hok ha
  obtain ⟨es, ep, ⟨o, ho, hx, hdat⟩, _, _⟩ := Heap.DictOf.raw dd
  refine DT.callItems (es := es) (ep := ep) hd ⟨o, ho, hx, hdat⟩ ?_
  have hf : H s.heap.objs.size = none := I.hok.fresh (Nat.le_refl _)
  exact ⟨.ref s.heap.objs.size, upd H s.heap.objs.size (L2.DX.itemsO s.heap.objs.size a), I.laid (t' := s.toks) (fun b u e => Heap.get?_push_of_some _ e) (Nat.le_refl _) (L2.DX.itemsO_ok (Heap.get?_push_size _ rfl)), rfl, q _ hf⟩
/-- tuples already laid are tracked -/
theorem takeT2 {pins : List (Addr × Obj)} {σ : L2.St} {H0 : Hp} {s : Shared} {h' : Heap} {tk : Nat} {f : Addr → List V} (I0 : Inv X pins σ H0 s) : ∀ (L : List Addr) (H1 : Hp), Inv X pins σ H1 { s with heap := h', toks := tk } → L.Nodup →
    (∀ a ∈ L, s.heap.objs.size ≤ a ∧ H1 a = none ∧ ∀ H2, ObjOk X.prog X.w H2 h' a (.tup (f a))) →
    ∃ H2, Inv X pins σ H2 { s with heap := h', toks := tk } ∧ (∀ b, b ∉ L → H2 b = H1 b) ∧ ∀ a ∈ L, H2 a = some (.tup (f a))
  | [], H1, I1, _, _ => ⟨H1, I1, fun _ _ => rfl, fun _ h => nomatch h⟩
  | a :: L, H1, I1, hn, h => by
    obtain ⟨hb, hnone, ok⟩ := h a (List.mem_cons_self ..)
    have I2 : Inv X pins σ (upd H1 a (.tup (f a))) { s with heap := h', toks := tk } := I1.take (h' := h') (t' := tk) (fun b ob _ e => e) (I0.fpOk hb hnone) (ok _)
    rw [List.nodup_cons] at hn
    obtain ⟨H2, I3, g, q⟩ := takeT2 I0 L (upd H1 a (.tup (f a))) I2 hn.2 fun c hc => by
      obtain ⟨c1, c2, c3⟩ := h c (List.mem_cons_of_mem _ hc)
      exact ⟨c1, by rw [upd_ne (fun z => hn.1 (by rw [← z]; exact hc))]; exact c2, c3⟩
    refine ⟨H2, I3, fun b hb => ?_, fun c hc => ?_⟩
    · rw [g b (fun z => hb (List.mem_cons_of_mem _ z)), upd_ne (fun z => hb (by rw [z]; exact List.mem_cons_self))]
    · rcases List.mem_cons.mp hc with rfl | hc
      · rw [g _ hn.1, upd_same]
      · exact q c hc
abbrev pK (q : Int × Int) : Key × V := (Sum.inl q.1, V.int q.2)
/-- sorted(d.items()), keys and values ints -/
def rSortItK : List V → Hp → VK → Prop := fun vs H Q => ∃ (p a : Addr) (qs : List (Int × Int)), vs = [.ref p] ∧ H p = some (L2.DX.itemsO p a) ∧ H a = some (.dK (qs.map pK)) ∧
  ∀ (H' : Hp) (l : Addr) (as : List Addr) (qs' : List (Int × Int)), qs'.Perm qs → qs'.Pairwise (fun x y => x.1 ≤ y.1) → H l = none → (∀ b ∈ as, H b = none) → Ex H H' → (Nod H → Nod H') → H' l = some (.lst (as.map V.ref)) → as.length = qs'.length →
    (∀ (i : Nat) (b : Addr) (q : Int × Int), as[i]? = some b → qs'[i]? = some q → H' b = some (.tup [.int q.1, .int q.2])) → Q (.ref l) H'
theorem cr_sortItK (hc : X.calm = true) : CallR X (.builtin "sorted") rSortItK := by
  intro pins s σ H xs us Q I r h
  obtain ⟨p, a, qs, rfl, hp, ha, q⟩ := h
  obtain rfl := Vals.ref1 r
  have view : s.heap.IsItemsView p a := (show ObjOk X.prog X.w H s.heap p (L2.DX.itemsO p a) from I.hok p _ hp).1
  obtain ⟨z, hd, vs, rel, dd⟩ := dk_of I.hok ha
  obtain ⟨es, ep, raw, hsz, hent⟩ := Heap.DictOf.raw dd
  have hlen : qs.length = vs.length := by have := rel.length; rw [List.length_map] at this; exact this
  rw [List.length_map] at z
  have hh : X.A.handled = none := I.ok.hd hc
  refine DT.sortedI (es := es) (ep := ep) hh view raw (by omega) fun h' tk as hk hlt hl hG => ?_
  have lak : as.length = qs.length := by omega
  have nd : as.Nodup := List.Pairwise.imp (fun h => Nat.ne_of_lt h) hG.rise
  have pr : ∀ (j : Nat) (b : Addr), as[j]? = some b → ∃ (z : Int × Int) (t u : Tok), qs[j]? = some z ∧ h'.get? b = some { cls := .type "tuple", data := .seq #[Value.int z.1 t, Value.int z.2 u] } := by
    intro j b hj
    obtain ⟨en, he, hg⟩ := hG.pairs j b hj
    have hji : j < es.size := (Array.getElem?_eq_some_iff.mp he).1
    have hen : es[j] = en := (Array.getElem?_eq_some_iff.mp he).2
    have hjv : j < vs.length := by omega
    have hv : vs[j]? = some (vs[j].1, vs[j].2) := List.getElem?_eq_getElem hjv
    obtain ⟨e1, e2⟩ := hent j hji _ _ hv
    obtain ⟨x, ex, rx⟩ := KV.at' rel hv
    rw [List.getElem?_map] at ex
    cases eq : qs[j]? with
    | none => rw [eq] at ex; cases ex
    | some z =>
      rw [eq] at ex
      have e3 : pK z = (vs[j].1, x) := Option.some.inj ex
      have e4 : vs[j].1 = Sum.inl z.1 := (congrArg Prod.fst e3).symm
      have e5 : x = V.int z.2 := (congrArg Prod.snd e3).symm
      rw [e4] at e1
      rw [e5] at rx
      obtain ⟨u, eu⟩ := rx
      rw [hen] at e1 e2
      rcases keyIs_shape (show keyIs (Sum.inl z.1) en.key = true from e1) with ⟨i, t, ek, ev⟩ | ⟨y, t, ek, ev⟩
      · cases ek
        exact ⟨z, t, u, rfl, by rw [hg, ev, e2, eu]⟩
      · cases ek
  -- the numbers of each pair
  let kk : Addr → Int × Int := fun b => qs.getD (as.idxOf b) (0, 0)
  have hkk : ∀ (j : Nat) (b : Addr) (z : Int × Int), as[j]? = some b → qs[j]? = some z → kk b = z := fun j b z h1 h2 => by
    obtain ⟨hj, e⟩ := List.getElem?_eq_some_iff.mp h1
    show qs.getD (as.idxOf b) (0, 0) = z
    rw [← e, nd.idxOf_getElem j hj, List.getD_eq_getElem?_getD, h2]
    rfl
  have kmap : as.map kk = qs := by
    refine List.ext_getElem? fun j => ?_
    rw [List.getElem?_map]
    cases e : as[j]? with
    | none =>
      have : as.length ≤ j := List.getElem?_eq_none_iff.mp e
      rw [List.getElem?_eq_none (by omega)]
      rfl
    | some b =>
      obtain ⟨z, _, _, hz, _⟩ := pr j b e
      rw [hz]
      exact congrArg some (hkk j b z e hz)
  have pin : ∀ b ∈ as, ∃ (t u : Tok), h'.get? b = some { cls := .type "tuple", data := .seq #[Value.int (kk b).1 t, Value.int (kk b).2 u] } := fun b hb => by
    obtain ⟨j, hj⟩ := List.mem_iff_getElem?.mp hb
    obtain ⟨z, t, u, hz, hg⟩ := pr j b hj
    rw [hkk j b z hj hz]
    exact ⟨t, u, hg⟩
  have hob : (h'.push { cls := .type "list", data := .seq (as.map Value.ref).toArray }).get? h'.objs.size = some (seqObj "list" (as.map Value.ref).toArray 0) := Heap.get?_push_size _ rfl
  have ka : ∀ b o, h'.get? b = some o → (h'.push { cls := .type "list", data := .seq (as.map Value.ref).toArray }).get? b = some o := fun b o e => Heap.get?_push_of_some _ e
  have ne0 : ∀ b o, h'.get? b = some o → b ≠ h'.objs.size := fun b o e => Nat.ne_of_lt (Heap.lt_size e)
  generalize hh2 : h'.push { cls := .type "list", data := .seq (as.map Value.ref).toArray } = h2 at hob ka ⊢
  let kv : Value → Int × Int := fun v => match v with | .ref b => kk b | _ => (0, 0)
  have hpairs : ∀ v ∈ as.map Value.ref, Srt.IsPair h2 v (kv v).1 (kv v).2 := fun v hv => by
    obtain ⟨b, hb, rfl⟩ := List.mem_map.mp hv
    obtain ⟨t, u, hg⟩ := pin b hb
    exact ⟨b, _, t, u, 0, rfl, ka _ _ hg, rfl, rfl⟩
  refine wpAny_call_entry PyProof.Rows.slot_list_sort ⟨_, hob, rfl⟩ PyProof.Rows.entry_list_sort
    (SrtO.list_sort_ord (s := { s with heap := h2, toks := tk }) (SrtO.swo_lex kv) hob (by rw [List.length_map]; omega) (fun h2' => SrtO.pairs_sortableO (by omega) hpairs fun o e => ?_) fun out h1 h2s => ⟨.none, rfl, ?_⟩) (PyProof.Rows.args_list_sort _)
  · have e' : some o = some (seqObj "list" (as.map Value.ref).toArray 0) := e.symm.trans hob
    cases e'
    intro c
    exact absurd (Value.type.inj c) (by decide)
  · obtain ⟨zs, rfl⟩ : ∃ zs : List Addr, out = zs.map Value.ref := by
      have h3 : ∀ u ∈ out, ∃ b, u = Value.ref b := fun u hu => by
        obtain ⟨b, _, e⟩ := List.mem_map.mp (h2s.perm.mem_iff.mp hu)
        exact ⟨b, e.symm⟩
      clear h1 h2s
      induction out with
      | nil => exact ⟨[], rfl⟩
      | cons u out ih =>
        obtain ⟨zs, e⟩ := ih fun w hw => h3 w (List.mem_cons_of_mem _ hw)
        obtain ⟨b, rfl⟩ := h3 u List.mem_cons_self
        exact ⟨b :: zs, by rw [e]; rfl⟩
    have pz : zs.Perm as := by
      have := h2s.perm.map (fun v : Value => match v with | .ref b => b | _ => 0)
      rw [List.map_map, List.map_map] at this
      have e1 : ∀ l : List Addr, l.map ((fun v : Value => match v with | .ref b => b | _ => 0) ∘ Value.ref) = l := fun l => by
        induction l with
        | nil => rfl
        | cons x l ih => rw [List.map_cons, ih]; rfl
      rw [e1, e1] at this
      exact this
    have hsort : (zs.map kk).Pairwise (fun x y => x.1 ≤ y.1) := by
      rw [List.pairwise_map]
      have h1' : (zs.map Value.ref).Pairwise fun x y => SrtO.lexB (kv y) (kv x) = false := h1
      rw [List.pairwise_map] at h1'
      refine h1'.imp fun {x y} h => ?_
      have h' := SrtO.lexB_no.mp h
      have h'' : ¬ (((kk y).1 < (kk x).1) ∨ ((kk y).1 = (kk x).1 ∧ (kk y).2 < (kk x).2)) := h'
      omega
    have kF : ∀ b o, b ≠ h'.objs.size → h2.get? b = some o → (sortedHeap h2 h'.objs.size (as.map Value.ref) (zs.map Value.ref).toArray).get? b = some o := fun b o hb e => (PyProof.Rows.sortedHeap_old hb (Heap.lt_size e)).trans e
    have kS : ∀ b o, s.heap.get? b = some o → (sortedHeap h2 h'.objs.size (as.map Value.ref) (zs.map Value.ref).toArray).get? b = some o := fun b o e => kF b o (ne0 _ _ (hk b o e)) (ka b o (hk b o e))
    obtain ⟨eF, heF⟩ := PyProof.Rows.sortedHeap_at (vs := as.map Value.ref) (out := (zs.map Value.ref).toArray) hob
    have I1 : Inv X pins σ H { s with heap := sortedHeap h2 h'.objs.size (as.map Value.ref) (zs.map Value.ref).toArray, toks := tk } := I.kept (t' := tk) kS
    have hn0 : H h'.objs.size = none := I.hok.fresh (Nat.le_of_lt hlt)
    have hlen2 : (zs.map V.ref).length ≤ sizeLine := by rw [List.length_map, pz.length_eq]; omega
    have rv : Vals (zs.map V.ref) (zs.map Value.ref) := vals_maps V.ref Value.ref zs fun _ _ => rfl
    have I2 : Inv X pins σ (upd H h'.objs.size (.lst (zs.map V.ref))) { s with heap := sortedHeap h2 h'.objs.size (as.map Value.ref) (zs.map Value.ref).toArray, toks := tk } :=
      I1.take (h' := sortedHeap h2 h'.objs.size (as.map Value.ref) (zs.map Value.ref).toArray) (t' := tk) (fun b ob _ e => e) (I.fpOk (Nat.le_of_lt hlt) hn0) ⟨hlen2, zs.map Value.ref, eF, rv, heF⟩
    obtain ⟨H2, I3, g, qt⟩ := takeT2 (f := fun b => [.int (kk b).1, .int (kk b).2]) I as _ I2 nd fun b hb => by
      obtain ⟨t, u, hg⟩ := pin b hb
      have hbl : s.heap.objs.size ≤ b := Nat.le_of_lt (hG.above b hb)
      refine ⟨hbl, ?_, fun H3 => ⟨(by rw [sizeLine_eq]; show 2 ≤ 16777216; omega), [Value.int (kk b).1 t, Value.int (kk b).2 u], .cons ⟨_, rfl⟩ (.cons ⟨_, rfl⟩ .nil), ⟨_, kF _ _ (ne0 _ _ hg) (ka _ _ hg), rfl, 0, rfl⟩⟩⟩
      rw [upd_ne (ne0 _ _ hg)]
      exact I.hok.fresh hbl
    have hnew : ∀ b ∈ as, H b = none := fun b hb => I.hok.fresh (Nat.le_of_lt (hG.above b hb))
    have hl0 : h'.objs.size ∉ as := fun z => by
      obtain ⟨t, u, hg⟩ := pin _ z
      exact ne0 _ _ hg rfl
    refine ⟨.ref h'.objs.size, H2, I3, rfl, q H2 h'.objs.size zs (zs.map kk) (by rw [← kmap]; exact pz.map kk) hsort hn0 (fun b hb => hnew b (pz.mem_iff.mp hb)) (fun b o e => ?_) (fun n => ⟨fun b o e => ?_⟩) (by rw [g _ hl0, upd_same]) (by rw [List.length_map]) fun i b z h3 h4 => ?_⟩
    · rw [g b (fun z => by rw [hnew b z] at e; cases e), upd_ne (ne_of_none e hn0)]
      exact e
    · by_cases hb : b ∈ as
      · rw [qt b hb] at e
        cases e
        trivial
      · rw [g b hb] at e
        by_cases hbl : b = h'.objs.size
        · rw [hbl, upd_same] at e
          cases e
          trivial
        · rw [upd_ne hbl] at e
          exact n.nod b o e
    · rw [List.getElem?_map, h3] at h4
      have h5 : kk b = z := Option.some.inj h4
      rw [← h5]
      exact qt b (pz.mem_iff.mp (List.mem_of_getElem? h3))
/-- sorted(d), keys ints -/
def rSortDK : List V → Hp → VK → Prop := fun xs H Q => ∃ (a : Addr) (kvs : List (Key × V)) (ks : List Int), xs = [.ref a] ∧ H a = some (.dK kvs) ∧ kvs.map (·.1) = ks.map Sum.inl ∧
    ∀ (ys : List Int) (p : Addr), ys.Perm ks → ys.Pairwise (· ≤ ·) → H p = none → Q (.ref p) (upd H p (.lst (ys.map V.int)))
theorem cr_sortDK (hcalm : X.calm = true) : CallR X (.builtin "sorted") rSortDK := by
  intro pins s σ H xs us Q I r q
  obtain ⟨a, kvs, ks, ex, hd, hks, q⟩ := q
  subst ex
  obtain ⟨u, eu, rx⟩ := vals1 r
  subst eu
  cases rx
  obtain ⟨z, lo, vs, rel, dd⟩ := dk_of I.hok hd
  obtain ⟨ep, hat⟩ := dd.dictAt
  have hkeys : vs.map (·.1) = ks.map Sum.inl := rel.keys.symm.trans hks
  have hl : vs.length = ks.length := by
    have e := congrArg List.length hkeys
    rw [List.length_map, List.length_map] at e
    exact e
  have h16 : vs.length ≤ sizeLine := by rw [← rel.length]; exact z
  refine Calls.call_function_entry PyProof.Rows.kind_sorted PyProof.Rows.plain_sorted PyProof.Rows.entry_sorted (PyProof.Rows.args_sorted1 _) ?_
  unfold Builtin.«sorted»
  refine wpAny_bind (m := checkCount "sorted" 1 1 _) (wpAny_pure ?_)
  refine wpAny_bind (PySem.W.kdu_collect (A := X.A.in1) (PySem.W.kdl_dict (knd := mixKind X.prog X.w) (kvs := vs) (ep := ep) lo) (I.ok.hd hcalm) hat h16 fun h' tk acc hk hacc => ?_)
  have hal : acc.toList.length = ks.length := by rw [Array.length_toList, hacc.1, hl]
  have hS : IntsAre acc.toList ks := ints_each hal fun j v e => by
    obtain ⟨k, x, e1, e2⟩ := hacc.2 j v (by rw [← Array.getElem?_toList]; exact e)
    have e3 : (vs.map (·.1))[j]? = some k := by rw [List.getElem?_map, e1]; rfl
    rw [hkeys, List.getElem?_map] at e3
    cases e4 : ks[j]? with
    | none => rw [e4] at e3; cases e3
    | some y =>
      rw [e4] at e3
      have e5 : Sum.inl y = k := Option.some.inj e3
      subst e5
      rcases keyIs_shape (show keyIs (Sum.inl y) v = true from e2) with ⟨i, t, ek, ev⟩ | ⟨z, t, ek, ev⟩
      · cases ek
        exact ⟨y, t, rfl, ev⟩
      · cases ek
  have I1 : Inv X pins σ H { s with heap := h', toks := tk } := I.kept hk
  have hsz : acc.toList.length ≤ sizeLine := by rw [hal, ← hl]; exact h16
  refine wpAny_bind (wpAny_newList ?_ hsz)
  have hoL : (h'.push (seqObj "list" acc.toList.toArray 0)).get? h'.objs.size = some (seqObj "list" acc.toList.toArray 0) := Heap.get?_push_size _ rfl
  show wpAny _ _ _ _ _ { s with heap := h'.push (seqObj "list" acc.toList.toArray 0), toks := tk }
  refine wpAny_bind (wpAny_holding (wpAny_call_entry PyProof.Rows.slot_list_sort ⟨_, hoL, rfl⟩ PyProof.Rows.entry_list_sort
    (SrtO.list_sort_ord (s := { s with heap := h'.push (seqObj "list" acc.toList.toArray 0), toks := tk }) SrtO.swo_int hoL hsz (fun h2 => SrtO.ints_sortable hS h2) fun out b1 b2 => ⟨_, rfl, ?_⟩) (PyProof.Rows.args_list_sort _)))
  obtain ⟨g1, g2, g3⟩ := SrtO.ints_out hS b1 b2
  obtain ⟨e', he'⟩ := PyProof.Rows.sortedHeap_at (vs := acc.toList) (out := out.toArray) hoL
  have hlen : ((out.map SrtO.iv).map V.int).length ≤ sizeLine := by
    rw [List.length_map, g2.length_eq, ← hl]
    exact h16
  refine wpAny_pure ⟨_, rfl, .ref h'.objs.size, upd H h'.objs.size (.lst ((out.map SrtO.iv).map V.int)), I1.laid (t' := tk) (fun b u e => ?_) (Nat.le_refl _)
    (show ObjOk X.prog X.w _ _ _ (.lst ((out.map SrtO.iv).map V.int)) from ⟨hlen, out, e', vals_of_ints g1, he'⟩), rfl, q _ _ g2 g3 (I1.hok.fresh (Nat.le_refl _))⟩
  have hb : b < h'.objs.size := Heap.lt_size e
  rw [PyProof.Rows.sortedHeap_old (Nat.ne_of_lt hb) (by rw [size_push']; exact Nat.lt_succ_of_lt hb)]
  exact Heap.get?_push_of_some _ e
end
end Px
set_option linter.all false
set_option maxHeartbeats 1000000
namespace MQ
/-! ### greatest prime parts -/
def Pr (p : Nat) : Prop := 2 ≤ p ∧ ∀ d, d ∣ p → d = 1 ∨ d = p
open Classical in
/-- the greatest prime to k that parts n, or 1 -/
noncomputable def gpTo : Nat → Nat → Nat
  | 0, _ => 1
  | k + 1, n => if Pr (k + 1) ∧ (k + 1) ∣ n then k + 1 else gpTo k n
theorem gpTo_yes {k n : Nat} (h : Pr (k + 1) ∧ (k + 1) ∣ n) : gpTo (k + 1) n = k + 1 := if_pos h
theorem gpTo_no {k n : Nat} (h : ¬ (Pr (k + 1) ∧ (k + 1) ∣ n)) : gpTo (k + 1) n = gpTo k n := if_neg h
theorem gpTo_le {k n : Nat} : gpTo k n ≤ max 1 k := by
  induction k with
  | zero => simp [gpTo]
  | succ k ih =>
    by_cases h : Pr (k + 1) ∧ (k + 1) ∣ n
    · rw [gpTo_yes h]; omega
    · rw [gpTo_no h]; omega
theorem gpTo_pos {k n : Nat} : 1 ≤ gpTo k n := by
  induction k with
  | zero => simp [gpTo]
  | succ k ih =>
    by_cases h : Pr (k + 1) ∧ (k + 1) ∣ n
    · rw [gpTo_yes h]; omega
    · rw [gpTo_no h]; exact ih
theorem gpTo_spec {k n : Nat} : (gpTo k n = 1 ∧ ∀ p, Pr p → p ≤ k → ¬ p ∣ n) ∨ (Pr (gpTo k n) ∧ gpTo k n ∣ n ∧ gpTo k n ≤ k ∧ ∀ p, Pr p → p ≤ k → p ∣ n → p ≤ gpTo k n) := by
  induction k with
  | zero => exact .inl ⟨rfl, fun p hp h => by have := hp.1; omega⟩
  | succ k ih =>
    by_cases h : Pr (k + 1) ∧ (k + 1) ∣ n
    · rw [gpTo_yes h]
      exact .inr ⟨h.1, h.2, Nat.le_refl _, fun p _ hp _ => hp⟩
    · rw [gpTo_no h]
      have key : ∀ p, Pr p → p ≤ k + 1 → p ∣ n → p ≤ k := fun p h1 h2 h3 => by
        rcases Nat.lt_or_ge p (k + 1) with z | z
        · omega
        · have : p = k + 1 := by omega
          subst this
          exact absurd ⟨h1, h3⟩ h
      rcases ih with ⟨h1, h2⟩ | ⟨h1, h2, h3, h4⟩
      · exact .inl ⟨h1, fun p hp hk hd => h2 p hp (key p hp hk hd) hd⟩
      · exact .inr ⟨h1, h2, by omega, fun p hp hk hd => h4 p hp (key p hp hk hd) hd⟩
theorem has_prime : ∀ n : Nat, 2 ≤ n → ∃ p, Pr p ∧ p ∣ n := by
  intro n
  induction n using Nat.strongRecOn with
  | ind n ih =>
    intro h
    by_cases hp : Pr n
    · exact ⟨n, hp, Nat.dvd_refl n⟩
    · have : ∃ d, d ∣ n ∧ d ≠ 1 ∧ d ≠ n := Classical.byContradiction fun z => hp ⟨h, fun d hd => Classical.byContradiction fun y => z ⟨d, hd, fun e => y (.inl e), fun e => y (.inr e)⟩⟩
      obtain ⟨d, hd, h1, h2⟩ := this
      have hd0 : 0 < d := Nat.pos_of_dvd_of_pos hd (by omega)
      have hdn : d ≤ n := Nat.le_of_dvd (by omega) hd
      obtain ⟨p, hp1, hp2⟩ := ih d (by omega) (by omega)
      exact ⟨p, hp1, Nat.dvd_trans hp2 hd⟩
/-- what is prime, by the sieve -/
theorem sieve_prime {k : Nat} (h : 1 ≤ k) : gpTo k (k + 1) = 1 ↔ Pr (k + 1) := by
  rcases gpTo_spec (k := k) (n := k + 1) with ⟨h1, h2⟩ | ⟨h1, h2, h3, h4⟩
  · refine ⟨fun _ => ?_, fun _ => h1⟩
    obtain ⟨p, hp, hd⟩ := has_prime (k + 1) (by omega)
    rcases Nat.lt_or_ge k p with z | z
    · have := Nat.le_of_dvd (by omega) hd
      have : p = k + 1 := by omega
      rw [← this]; exact hp
    · exact absurd hd (h2 p hp z)
  · constructor
    · intro e
      have := h1.1
      omega
    · intro hp
      rcases hp.2 _ h2 with e | e
      · exact e
      · omega
noncomputable def gp (n : Nat) : Nat := gpTo n n
theorem gpTo_big {n k : Nat} (hn : 0 < n) (h : n ≤ k) : gpTo k n = gp n := by
  induction k with
  | zero => omega
  | succ k ih =>
    rcases Nat.lt_or_ge k n with z | z
    · have : n = k + 1 := by omega
      rw [this]; rfl
    · rw [gpTo_no (fun x => by have := Nat.le_of_dvd hn x.2; omega), ih z]
theorem gp_le {n : Nat} (h : 0 < n) : gp n ≤ n := by have := gpTo_le (k := n) (n := n); unfold gp; omega
theorem gp_pos {n : Nat} : 1 ≤ gp n := gpTo_pos
theorem gp_one : gp 1 = 1 := by have h1 := gp_le (n := 1) (by omega); have h2 := gp_pos (n := 1); omega
theorem gp_spec {n : Nat} (h : 2 ≤ n) : Pr (gp n) ∧ gp n ∣ n ∧ ∀ p, Pr p → p ∣ n → p ≤ gp n := by
  rcases gpTo_spec (k := n) (n := n) with ⟨h1, h2⟩ | ⟨h1, h2, h3, h4⟩
  · obtain ⟨p, hp, hd⟩ := has_prime n h
    exact absurd hd (h2 p hp (Nat.le_of_dvd (by omega) hd))
  · exact ⟨h1, h2, fun p hp hd => h4 p hp (Nat.le_of_dvd (by omega) hd) hd⟩
theorem gp_uniq {n g : Nat} (h : 2 ≤ n) (h1 : Pr g) (h2 : g ∣ n) (h3 : ∀ p, Pr p → p ∣ n → p ≤ g) : g = gp n := by
  obtain ⟨a, b, c⟩ := gp_spec h
  have := c g h1 h2
  have := h3 _ a b
  omega
/-- Euclid -/
theorem pr_mul {p a b : Nat} (hp : Pr p) (h : p ∣ a * b) : p ∣ a ∨ p ∣ b := by
  rcases hp.2 (Nat.gcd p a) (Nat.gcd_dvd_left p a) with e | e
  · exact .inr (Nat.Coprime.dvd_of_dvd_mul_left e h)
  · exact .inl (by rw [← e]; exact Nat.gcd_dvd_right p a)
theorem gp_mul {p n : Nat} (hp : Pr p) (hn : 0 < n) : gp (p * n) = max p (gp n) := by
  have hp2 := hp.1
  have h2 : 2 ≤ p * n := Nat.le_trans hp2 (Nat.le_mul_of_pos_right p hn)
  symm
  rcases Nat.lt_or_ge n 2 with z | z
  · have : n = 1 := by omega
    subst this
    rw [gp_one]
    refine gp_uniq h2 ?_ ?_ ?_
    · rw [Nat.max_eq_left (by omega)]; exact hp
    · rw [Nat.max_eq_left (by omega)]; exact Nat.dvd_mul_right p 1
    · intro q hq hd
      rw [Nat.mul_one] at hd
      have := Nat.le_of_dvd (by omega) hd
      omega
  · obtain ⟨a, b, c⟩ := gp_spec z
    refine gp_uniq h2 ?_ ?_ ?_
    · rcases Nat.le_total p (gp n) with y | y
      · rw [Nat.max_eq_right y]; exact a
      · rw [Nat.max_eq_left y]; exact hp
    · rcases Nat.le_total p (gp n) with y | y
      · rw [Nat.max_eq_right y]; exact Nat.dvd_trans b (Nat.dvd_mul_left n p)
      · rw [Nat.max_eq_left y]; exact Nat.dvd_mul_right p n
    · intro q hq hd
      rcases pr_mul hq hd with y | y
      · have := Nat.le_of_dvd (by omega) y
        omega
      · have := c q hq y
        omega
theorem gp_prime {p : Nat} (hp : Pr p) : gp p = p := by
  have := gp_mul hp (n := 1) (by omega)
  rw [Nat.mul_one, gp_one] at this
  have := hp.1
  omega
/-! ### counted -/
noncomputable def gl (b : Nat) : List Nat := (List.range b).map fun i => gp (i + 1)
theorem gl_len (b : Nat) : (gl b).length = b := by simp [gl]
theorem gl_mem {b x : Nat} (h : x ∈ gl b) : 1 ≤ x ∧ x ≤ b := by
  obtain ⟨i, hi, rfl⟩ := List.mem_map.mp h
  have := List.mem_range.mp hi
  exact ⟨gp_pos, by have := gp_le (n := i + 1) (by omega); omega⟩
theorem gl_succ (b : Nat) : gl (b + 1) = gl b ++ [gp (b + 1)] := by simp [gl, List.range_succ]
/-- each number that stands in a list, with how many times: rising -/
def cts (B : Nat) (L : List Nat) : List (Int × Int) := ((List.range (B + 1)).filter fun g => decide (0 < L.count g)).map fun (g : Nat) => ((g : Int), (L.count g : Int))
theorem cts_mem {B : Nat} {L : List Nat} (h : ∀ x ∈ L, x ≤ B) {z : Int × Int} : z ∈ cts B L ↔ ∃ g : Nat, g ∈ L ∧ z = ((g : Int), (L.count g : Int)) := by
  unfold cts
  rw [List.mem_map]
  constructor
  · rintro ⟨g, hg, rfl⟩
    rw [List.mem_filter] at hg
    exact ⟨g, List.count_pos_iff.mp (of_decide_eq_true hg.2), rfl⟩
  · rintro ⟨g, hg, rfl⟩
    exact ⟨g, List.mem_filter.mpr ⟨List.mem_range.mpr (by have := h g hg; omega), decide_eq_true (List.count_pos_iff.mpr hg)⟩, rfl⟩
theorem cts_pair (B : Nat) (L : List Nat) : (cts B L).Pairwise fun x y => x.1 < y.1 := by
  unfold cts
  rw [List.pairwise_map]
  exact (List.pairwise_lt_range.sublist List.filter_sublist).imp fun h => by simpa using h
theorem pair_eq : ∀ {l m : List (Int × Int)}, l.Pairwise (fun x y => x.1 < y.1) → m.Pairwise (fun x y => x.1 < y.1) → (∀ z, z ∈ l ↔ z ∈ m) → l = m
  | [], [], _, _, _ => rfl
  | [], y :: m, _, _, h => absurd ((h y).mpr List.mem_cons_self) (by simp)
  | x :: l, [], _, _, h => absurd ((h x).mp List.mem_cons_self) (by simp)
  | x :: l, y :: m, hl, hm, h => by
    obtain ⟨h1, h2⟩ := List.pairwise_cons.mp hl
    obtain ⟨g1, g2⟩ := List.pairwise_cons.mp hm
    have e : x = y := by
      rcases List.mem_cons.mp ((h x).mp List.mem_cons_self) with e | hx
      · exact e
      · rcases List.mem_cons.mp ((h y).mpr List.mem_cons_self) with e | hy
        · exact e.symm
        · have := g1 x hx
          have := h1 y hy
          omega
    subst e
    rw [pair_eq h2 g2 fun z => ?_]
    constructor
    · intro hz
      rcases List.mem_cons.mp ((h z).mp (List.mem_cons_of_mem _ hz)) with e | y
      · subst e
        have := h1 _ hz
        omega
      · exact y
    · intro hz
      rcases List.mem_cons.mp ((h z).mpr (List.mem_cons_of_mem _ hz)) with e | y
      · subst e
        have := g1 _ hz
        omega
      · exact y
/-- a dict of counts -/
structure Cdict (L : List Nat) (qs : List (Int × Int)) : Prop where
  nd : (qs.map (·.1)).Nodup
  mem : ∀ z, z ∈ qs ↔ ∃ g : Nat, g ∈ L ∧ z = ((g : Int), (L.count g : Int))
theorem Cdict.nil : Cdict [] [] := ⟨by simp, fun z => by simp⟩
theorem Cdict.sorted {B : Nat} {L : List Nat} {qs qs' : List (Int × Int)} (c : Cdict L qs) (hB : ∀ x ∈ L, x ≤ B) (p : qs'.Perm qs) (h : qs'.Pairwise fun x y => x.1 ≤ y.1) : qs' = cts B L := by
  have nd : (qs'.map (·.1)).Nodup := (p.map _).nodup_iff.mpr c.nd
  refine pair_eq ?_ (cts_pair B L) fun z => ?_
  · have nd' : qs'.Pairwise fun x y => x.1 ≠ y.1 := List.pairwise_map.mp nd
    exact (h.and nd').imp fun {x y} h => by omega
  · rw [p.mem_iff, c.mem z, cts_mem hB]
theorem Cdict.keys {B : Nat} {L : List Nat} {qs : List (Int × Int)} (c : Cdict L qs) (hB : ∀ x ∈ L, x ≤ B) {ks : List Int} (p : ks.Perm (qs.map (·.1))) (h : ks.Pairwise (· ≤ ·)) : ks = (cts B L).map (·.1) := by
  have nd : ks.Nodup := p.nodup_iff.mpr c.nd
  have h1 : ks.Pairwise (· < ·) := (h.and nd).imp fun {x y} h => by omega
  have h2 : ((cts B L).map (·.1)).Pairwise (· < ·) := List.pairwise_map.mpr (cts_pair B L)
  have hp : ks.Perm ((cts B L).map (·.1)) := by
    refine p.trans (List.perm_iff_count.mpr fun a => ?_)
    have n2 : ((cts B L).map (·.1)).Nodup := h2.imp fun h => by omega
    rw [c.nd.count, n2.count]
    have : a ∈ qs.map (·.1) ↔ a ∈ (cts B L).map (·.1) := by
      rw [List.mem_map, List.mem_map]
      constructor
      · rintro ⟨z, hz, rfl⟩; exact ⟨z, (cts_mem hB).mpr ((c.mem z).mp hz), rfl⟩
      · rintro ⟨z, hz, rfl⟩; exact ⟨z, (c.mem z).mpr ((cts_mem hB).mp hz), rfl⟩
    simp only [this]
  exact hp.eq_of_pairwise (fun a b _ _ h1 h2 => by omega) (h1.imp fun h => Int.le_of_lt h) (h2.imp fun h => Int.le_of_lt h)
end MQ
namespace MQ
/-! ### the sieve -/
def fl (B : Nat) (f : Nat → Nat) : List Nat := (List.range (B + 1)).map f
theorem fl_len (B : Nat) (f : Nat → Nat) : (fl B f).length = B + 1 := by simp [fl]
theorem fl_get {B j : Nat} {f : Nat → Nat} (h : j ≤ B) : (fl B f)[j]? = some (f j) := by
  unfold fl
  rw [List.getElem?_map, List.getElem?_range (by omega)]
  rfl
theorem fl_congr {B : Nat} {f g : Nat → Nat} (h : ∀ n, n ≤ B → f n = g n) : fl B f = fl B g :=
  List.map_congr_left fun n hn => h n (by have := List.mem_range.mp hn; omega)
theorem fl_set {B j v : Nat} {f : Nat → Nat} (h : j ≤ B) : (fl B f).set j v = fl B fun n => if n = j then v else f n := by
  refine List.ext_getElem? fun i => ?_
  rcases Nat.lt_or_ge B i with z | z
  · rw [List.getElem?_eq_none (by rw [List.length_set, fl_len]; omega), List.getElem?_eq_none (by rw [fl_len]; omega)]
  · rw [fl_get z]
    by_cases e : i = j
    · subst e
      rw [List.getElem?_set_self (by rw [fl_len]; omega), if_pos rfl]
    · rw [List.getElem?_set_ne (Ne.symm e), fl_get z, if_neg e]
noncomputable def sv (k : Nat) : Nat → Nat := fun n => if n = 0 then 1 else gpTo k n
open Classical in
noncomputable def sw (p i : Nat) (f : Nat → Nat) : Nat → Nat := fun n => if p ∣ n ∧ 0 < n ∧ n ≤ p * i then p else f n
theorem sw_zero {p : Nat} {f : Nat → Nat} : sw p 0 f = f := by
  funext n
  unfold sw
  rw [if_neg (by omega)]
theorem sw_succ {p i : Nat} {f : Nat → Nat} (hp : 0 < p) : (fun n => if n = p * (i + 1) then p else sw p i f n) = sw p (i + 1) f := by
  funext n
  unfold sw
  by_cases e : n = p * (i + 1)
  · rw [if_pos e, if_pos ⟨by rw [e]; exact Nat.dvd_mul_right _ _, by rw [e]; exact Nat.mul_pos hp (by omega), by omega⟩]
  · rw [if_neg e]
    by_cases h : p ∣ n ∧ 0 < n ∧ n ≤ p * i
    · rw [if_pos h, if_pos ⟨h.1, h.2.1, Nat.le_trans h.2.2 (Nat.mul_le_mul_left p (by omega))⟩]
    · rw [if_neg h, if_neg]
      rintro ⟨⟨c, rfl⟩, h2, h3⟩
      have hc : c ≤ i + 1 := Nat.le_of_mul_le_mul_left h3 hp
      have hc2 : c ≠ i + 1 := fun z => e (by rw [z])
      exact h ⟨Nat.dvd_mul_right _ _, h2, Nat.mul_le_mul_left p (by omega)⟩
theorem sw_end {k m B : Nat} (hp : Pr (k + 1)) (hB : B < (k + 1) * (m + 1)) {n : Nat} (hn : n ≤ B) : sw (k + 1) m (sv k) n = sv (k + 1) n := by
  unfold sw sv
  by_cases h0 : n = 0
  · rw [if_neg (by omega), if_pos h0, if_pos h0]
  · rw [if_neg h0, if_neg h0]
    by_cases hd : (k + 1) ∣ n
    · have hle : n ≤ (k + 1) * m := by
        obtain ⟨c, rfl⟩ := hd
        have : c < m + 1 := Nat.lt_of_mul_lt_mul_left (Nat.lt_of_le_of_lt hn hB)
        exact Nat.mul_le_mul_left _ (by omega)
      rw [if_pos ⟨hd, by omega, hle⟩, gpTo_yes ⟨hp, hd⟩]
    · rw [if_neg (fun z => hd z.1), gpTo_no (fun z => hd z.2)]
theorem sv_skip {k : Nat} (h : ¬ Pr (k + 1)) : sv (k + 1) = sv k := by
  funext n
  unfold sv
  split
  · rfl
  · exact gpTo_no (fun z => h z.1)
theorem sv_one : sv 1 = fun _ => 1 := by
  funext n
  unfold sv
  split
  · rfl
  · rw [gpTo_no (fun z => by have := z.1.1; omega)]; rfl
theorem sv_test {k : Nat} (h : 1 ≤ k) : sv k (k + 1) = 1 ↔ Pr (k + 1) := by
  unfold sv
  rw [if_neg (by omega)]
  exact sieve_prime h
theorem sv_done (B : Nat) : fl B (sv B) = 1 :: gl B := by
  unfold fl gl
  rw [List.range_succ_eq_map, List.map_cons, List.map_map]
  refine congr (congrArg List.cons ?_) (List.map_congr_left fun n hn => ?_)
  · unfold sv; rw [if_pos rfl]
  · have := List.mem_range.mp hn
    show sv B (n + 1) = gp (n + 1)
    unfold sv
    rw [if_neg (by omega), gpTo_big (by omega) (by omega)]
/-! ### counting one more -/
theorem count_app (L : List Nat) (x g : Nat) : (L ++ [x]).count g = L.count g + if x = g then 1 else 0 := by
  rw [List.count_append, List.count_cons, List.count_nil]
  simp
theorem Cdict.get {L : List Nat} {qs : List (Int × Int)} (c : Cdict L qs) (x : Nat) : (qs.find? fun z => decide (z.1 = (x : Int))).map (·.2) = if x ∈ L then some (L.count x : Int) else none := by
  by_cases h : x ∈ L
  · rw [if_pos h]
    have hm : ((x : Int), (L.count x : Int)) ∈ qs := (c.mem _).mpr ⟨x, h, rfl⟩
    cases e : qs.find? fun z => decide (z.1 = (x : Int)) with
    | none =>
      have := List.find?_eq_none.mp e _ hm
      simp at this
    | some z =>
      have h1 := List.find?_some e
      have h2 := List.mem_of_find?_eq_some e
      obtain ⟨g, hg, rfl⟩ := (c.mem z).mp h2
      have : (g : Int) = (x : Int) := of_decide_eq_true h1
      have : g = x := by omega
      subst this
      rfl
  · rw [if_neg h]
    cases e : qs.find? fun z => decide (z.1 = (x : Int)) with
    | none => rfl
    | some z =>
      have h1 := List.find?_some e
      have h2 := List.mem_of_find?_eq_some e
      obtain ⟨g, hg, rfl⟩ := (c.mem z).mp h2
      have : (g : Int) = (x : Int) := of_decide_eq_true h1
      have : g = x := by omega
      subst this
      exact absurd hg h
/-- a store in such a dict -/
def putC (qs : List (Int × Int)) (k v : Int) : List (Int × Int) := if qs.any (fun z => decide (z.1 = k)) then qs.map fun z => if z.1 = k then (z.1, v) else z else qs ++ [(k, v)]
theorem Cdict.put {L : List Nat} {qs : List (Int × Int)} (c : Cdict L qs) (x : Nat) : Cdict (L ++ [x]) (putC qs (x : Int) ((L.count x : Int) + 1)) := by
  unfold putC
  by_cases h : x ∈ L
  · have hm : ((x : Int), (L.count x : Int)) ∈ qs := (c.mem _).mpr ⟨x, h, rfl⟩
    rw [if_pos (List.any_eq_true.mpr ⟨_, hm, by simp⟩)]
    refine ⟨?_, fun z => ?_⟩
    · rw [List.map_map]
      have : qs.map ((fun z : Int × Int => z.1) ∘ fun z => if z.1 = (x : Int) then (z.1, (L.count x : Int) + 1) else z) = qs.map (·.1) := List.map_congr_left fun z _ => by
        show (if z.1 = (x : Int) then (z.1, (L.count x : Int) + 1) else z).1 = z.1
        split <;> rfl
      rw [this]; exact c.nd
    · rw [List.mem_map]
      constructor
      · rintro ⟨w, hw, rfl⟩
        obtain ⟨g, hg, rfl⟩ := (c.mem w).mp hw
        refine ⟨g, List.mem_append_left _ hg, ?_⟩
        rw [count_app]
        by_cases e : x = g
        · subst e; simp
        · rw [if_neg (by show ¬ (g : Int) = (x : Int); omega), if_neg e]; simp
      · rintro ⟨g, hg, rfl⟩
        rw [count_app]
        by_cases e : x = g
        · subst e
          exact ⟨_, hm, by simp⟩
        · have hg' : g ∈ L := by
            rcases List.mem_append.mp hg with y | y
            · exact y
            · exact absurd (List.mem_singleton.mp y).symm e
          refine ⟨((g : Int), (L.count g : Int)), (c.mem _).mpr ⟨g, hg', rfl⟩, ?_⟩
          rw [if_neg (by show ¬ (g : Int) = (x : Int); omega), if_neg e]; simp
  · have hk : ∀ z ∈ qs, z.1 ≠ (x : Int) := fun z hz e => by
      obtain ⟨g, hg, rfl⟩ := (c.mem z).mp hz
      have : g = x := by have : (g : Int) = (x : Int) := e; omega
      exact h (this ▸ hg)
    rw [if_neg (fun z => by obtain ⟨w, hw, e⟩ := List.any_eq_true.mp z; exact hk w hw (of_decide_eq_true e))]
    have h0 : L.count x = 0 := List.count_eq_zero.mpr h
    refine ⟨?_, fun z => ?_⟩
    · rw [List.map_append, List.nodup_append]
      refine ⟨c.nd, by simp, fun a ha b hb => ?_⟩
      obtain ⟨w, hw, rfl⟩ := List.mem_map.mp ha
      rw [List.map_cons, List.map_nil, List.mem_singleton] at hb
      subst hb
      exact hk w hw
    · rw [List.mem_append, List.mem_singleton]
      constructor
      · rintro (hz | rfl)
        · obtain ⟨g, hg, rfl⟩ := (c.mem z).mp hz
          refine ⟨g, List.mem_append_left _ hg, ?_⟩
          have e : ¬ x = g := fun e => h (e ▸ hg)
          rw [count_app, if_neg e]; simp
        · refine ⟨x, List.mem_append_right _ (List.mem_singleton.mpr rfl), ?_⟩
          rw [count_app, if_pos rfl, h0]; simp
      · rintro ⟨g, hg, rfl⟩
        rw [count_app]
        by_cases e : x = g
        · subst e
          right; rw [if_pos rfl, h0]; simp
        · left
          have hg' : g ∈ L := by
            rcases List.mem_append.mp hg with y | y
            · exact y
            · exact absurd (List.mem_singleton.mp y).symm e
          rw [if_neg e]
          exact (c.mem _).mpr ⟨g, hg', by simp⟩
theorem putC_len (qs : List (Int × Int)) (k v : Int) : (putC qs k v).length ≤ qs.length + 1 := by
  unfold putC
  split
  · rw [List.length_map]; omega
  · rw [List.length_append]; simp
/-! ### so many with at most -/
theorem sum_one (x n : Nat) : ((List.range n).map fun g => if x = g then 1 else 0).sum = if x < n then 1 else 0 := by
  induction n with
  | zero => simp
  | succ n ih =>
    rw [List.range_succ, List.map_append, List.sum_append, ih]
    simp only [List.map_cons, List.map_nil, List.sum_cons, List.sum_nil]
    by_cases h : x = n
    · subst h; simp
    · rw [if_neg h]
      by_cases h2 : x < n
      · rw [if_pos h2, if_pos (by omega)]; rfl
      · rw [if_neg h2, if_neg (by omega)]; rfl
theorem sum_add {α : Type} (f g : α → Nat) : ∀ l : List α, (l.map fun a => f a + g a).sum = (l.map f).sum + (l.map g).sum
  | [] => rfl
  | a :: l => by simp only [List.map_cons, List.sum_cons, sum_add f g l]; omega
theorem cts_count (B m : Nat) (L : List Nat) : (((List.range (B + 1)).filter fun g => decide (g ≤ m)).map fun g => L.count g).sum = (L.filter fun x => decide (x ≤ m ∧ x ≤ B)).length := by
  induction L with
  | nil =>
    simp only [List.count_nil, List.filter_nil, List.length_nil]
    generalize ((List.range (B + 1)).filter fun g => decide (g ≤ m)) = l
    induction l with
    | nil => rfl
    | cons a l ih => simpa using ih
  | cons x L ih =>
    have e1 : ∀ g, (x :: L).count g = L.count g + if x = g then 1 else 0 := fun g => by
      rw [List.count_cons]; simp
    simp only [e1]
    rw [sum_add, ih, List.filter_cons]
    have e2 : (((List.range (B + 1)).filter fun g => decide (g ≤ m)).map fun g => if x = g then 1 else 0).sum = if x ≤ m ∧ x ≤ B then 1 else 0 := by
      have : ∀ n, (((List.range n).filter fun g => decide (g ≤ m)).map fun g => if x = g then 1 else 0).sum = if x ≤ m ∧ x < n then 1 else 0 := fun n => by
        induction n with
        | zero => simp
        | succ n ih =>
          rw [List.range_succ, List.filter_append, List.map_append, List.sum_append, ih, List.filter_cons, List.filter_nil]
          by_cases hn : n ≤ m
          · rw [if_pos (decide_eq_true hn)]
            simp only [List.map_cons, List.map_nil, List.sum_cons, List.sum_nil]
            by_cases h : x = n
            · subst h; simp [hn]
            · rw [if_neg h]
              by_cases h2 : x ≤ m ∧ x < n
              · rw [if_pos h2, if_pos ⟨h2.1, by omega⟩]; rfl
              · rw [if_neg h2, if_neg (by omega)]; rfl
          · rw [if_neg (c := decide (n ≤ m) = true) (by simpa using hn)]
            simp only [List.map_nil, List.sum_nil, Nat.add_zero]
            by_cases h2 : x ≤ m ∧ x < n
            · rw [if_pos h2, if_pos ⟨h2.1, by omega⟩]
            · rw [if_neg h2, if_neg (by omega)]
      rw [this (B + 1)]
      by_cases h2 : x ≤ m ∧ x ≤ B
      · rw [if_pos h2, if_pos (by omega)]
      · rw [if_neg h2, if_neg (by omega)]
    rw [e2]
    by_cases h : x ≤ m ∧ x ≤ B
    · rw [if_pos h, if_pos (decide_eq_true h), List.length_cons]
    · rw [if_neg h, if_neg (by simpa using h)]; rfl
theorem cast_sum : ∀ l : List Nat, ((l.sum : Nat) : Int) = (l.map fun (x : Nat) => (x : Int)).sum
  | [] => rfl
  | a :: l => by simp [cast_sum l]
/-- the counts of those to m come to how many are to m -/
theorem cts_sum {B : Nat} {L : List Nat} (h : ∀ x ∈ L, x ≤ B) (m : Int) : (((cts B L).filter fun z => decide (z.1 ≤ m)).map (·.2)).sum = ((L.filter fun (x : Nat) => decide ((x : Int) ≤ m)).length : Int) := by
  rcases Int.lt_or_le m 0 with hm | hm
  · have e1 : (cts B L).filter (fun z => decide (z.1 ≤ m)) = [] := List.filter_eq_nil_iff.mpr fun z hz => by
      obtain ⟨g, _, rfl⟩ := (cts_mem h).mp hz
      simp; omega
    have e2 : L.filter (fun (x : Nat) => decide ((x : Int) ≤ m)) = [] := List.filter_eq_nil_iff.mpr fun x _ => by simp; omega
    rw [e1, e2]; rfl
  · obtain ⟨k, rfl⟩ : ∃ k : Nat, m = (k : Int) := ⟨m.toNat, by omega⟩
    have e2 : (L.filter fun (x : Nat) => decide ((x : Int) ≤ (k : Int))) = L.filter fun x => decide (x ≤ k ∧ x ≤ B) := List.filter_congr fun x hx => by
      have := h x hx
      exact decide_eq_decide.mpr (by omega)
    rw [e2, ← cts_count, cast_sum]
    unfold cts
    rw [List.filter_map, List.map_map, List.map_map, List.filter_filter]
    have e3 : ∀ l : List Nat, ((l.filter fun a => ((fun z : Int × Int => decide (z.1 ≤ (k : Int))) ∘ fun (g : Nat) => ((g : Int), (L.count g : Int))) a && decide (0 < L.count a)).map ((fun z : Int × Int => z.2) ∘ fun (g : Nat) => ((g : Int), (L.count g : Int)))).sum = ((l.filter fun g => decide (g ≤ k)).map ((fun (x : Nat) => (x : Int)) ∘ fun g => L.count g)).sum := fun l => by
      induction l with
      | nil => rfl
      | cons a l ih =>
        rw [List.filter_cons, List.filter_cons]
        have e4 : ((fun z : Int × Int => decide (z.1 ≤ (k : Int))) ∘ fun (g : Nat) => ((g : Int), (L.count g : Int))) a = decide (a ≤ k) := decide_eq_decide.mpr (by show (a : Int) ≤ (k : Int) ↔ a ≤ k; omega)
        rw [e4]
        by_cases h1 : a ≤ k
        · rw [if_pos (decide_eq_true h1), decide_eq_true h1, Bool.true_and]
          by_cases h2 : 0 < L.count a
          · rw [if_pos (decide_eq_true h2), List.map_cons, List.map_cons, List.sum_cons, List.sum_cons, ih]; rfl
          · rw [if_neg (by simpa using h2), List.map_cons, List.sum_cons, ih]
            have : L.count a = 0 := by omega
            show _ = ((L.count a : Nat) : Int) + _
            rw [this]; simp
        · rw [decide_eq_false h1, Bool.false_and, if_neg (by decide), if_neg (by decide)]
          exact ih
    exact e3 _
end MQ
namespace MQ
/-! ### by trial -/
theorem pr_of_sq {l d : Nat} (hl : 2 ≤ l) (h : ∀ p, Pr p → p ∣ l → d ≤ p) (hd : l < d * d) : Pr l := by
  obtain ⟨p, hp, c, rfl⟩ := has_prime l hl
  have h1 := h p hp (Nat.dvd_mul_right p c)
  rcases Nat.lt_or_ge c 2 with z | z
  · have : c = 1 := by
      rcases Nat.eq_zero_or_pos c with y | y
      · subst y; simp at hl
      · omega
    subst this
    rw [Nat.mul_one]; exact hp
  · obtain ⟨q, hq, hqc⟩ := has_prime c z
    have h2 := h q hq (Nat.dvd_trans hqc (Nat.dvd_mul_left c p))
    have h3 := Nat.le_of_dvd (by omega) hqc
    have : d * d ≤ p * c := Nat.mul_le_mul h1 (by omega)
    omega
theorem pr_of_least {l d : Nat} (hd2 : 2 ≤ d) (h : ∀ p, Pr p → p ∣ l → d ≤ p) (hd : d ∣ l) : Pr d := by
  obtain ⟨q, hq, hqd⟩ := has_prime d hd2
  have h1 := h q hq (Nat.dvd_trans hqd hd)
  have h2 := Nat.le_of_dvd (by omega) hqd
  have : q = d := by omega
  rw [← this]; exact hq
/-- where the search stands: f found, l left, d tried next -/
structure Tri (n f l d : Nat) : Prop where
  l0 : 0 < l
  ln : l ≤ n
  f1 : 1 ≤ f
  fd : f ≤ d
  is : gp n = max f (gp l)
  up : ∀ p, Pr p → p ∣ l → d ≤ p
theorem Tri.start {n : Nat} (h : 0 < n) : Tri n 1 n 2 := ⟨h, Nat.le_refl _, Nat.le_refl _, by omega, by have := gp_pos (n := n); omega, fun p hp _ => hp.1⟩
theorem Tri.take {n f l d : Nat} (t : Tri n f l d) (h2 : 2 ≤ d) (h : l % d = 0) : Tri n d (l / d) d ∧ l / d < l := by
  obtain ⟨c, rfl⟩ := Nat.dvd_of_mod_eq_zero h
  have hp := pr_of_least h2 t.up (Nat.dvd_mul_right d c)
  have hc : 0 < c := by
    rcases Nat.eq_zero_or_pos c with y | y
    · subst y; have := t.l0; simp at this
    · exact y
  rw [Nat.mul_div_cancel_left c (by omega)]
  have hlt : c < d * c := by
    have : 2 * c ≤ d * c := Nat.mul_le_mul_right c h2
    omega
  refine ⟨⟨hc, by have := t.ln; omega, by omega, Nat.le_refl _, ?_, fun p h1 h3 => t.up p h1 (Nat.dvd_trans h3 (Nat.dvd_mul_left c d))⟩, hlt⟩
  rw [t.is, gp_mul hp hc]
  have := t.fd
  omega
theorem Tri.next {n f l d : Nat} (t : Tri n f l d) (h : l % d ≠ 0) : Tri n f l (d + 1) := ⟨t.l0, t.ln, t.f1, by have := t.fd; omega, t.is, fun p h1 h2 => by
  have := t.up p h1 h2
  rcases Nat.lt_or_ge d p with z | z
  · omega
  · have : p = d := by omega
    subst this
    exact absurd (Nat.mod_eq_zero_of_dvd h2) h⟩
theorem Tri.done {n f l d : Nat} (t : Tri n f l d) (h : l < d * d) : gp n = max f l := by
  rw [t.is]
  have h1 := t.l0
  have h2 := t.f1
  rcases Nat.lt_or_ge l 2 with z | z
  · have : l = 1 := by omega
    subst this
    rw [gp_one]
  · rw [gp_prime (pr_of_sq z t.up h)]
theorem gl_take {b i : Nat} (h : i ≤ b) : (gl b).take i = gl i := by
  unfold gl
  rw [← List.map_take, List.take_range, Nat.min_eq_left h]
end MQ
set_option Elab.async false
set_option linter.all false
set_option maxRecDepth 100000
set_option maxHeartbeats 4000000
namespace Px
open PySem L2 MA
local macro_rules | `(tactic| bv_omega) => `(tactic| first | assumption | omega | exact cm (by omega) | exact cd (by omega) | exact cp (by omega) | exact trivial)
local macro_rules | `(tactic| array_get_dec) => `(tactic| first
  | assumption
  | exact sq_up
  | exact Own.sqi (by assumption) 0 (by rfl)
  | exact Own.sqi (by assumption) 1 (by rfl)
  | exact Own.sqi (by assumption) 2 (by rfl)
  | exact Own.sqi (by assumption) 3 (by rfl)
  | exact Own.sqi (by assumption) 4 (by rfl)
  | exact Own.sq (by assumption) (by assumption)
  | exact sq_new (by assumption) (by assumption))
local macro_rules | `(tactic| clean_wf) => `(tactic| first
  | with_reducible exact ev_c
  | (with_reducible apply ev_v') <;> rfl
  | (with_reducible apply ev_add) <;> clean_wf
  | (with_reducible apply ev_sub) <;> clean_wf
  | (with_reducible apply ev_mul) <;> clean_wf
  | (with_reducible apply ev_mod) <;> clean_wf
  | (with_reducible apply ev_div) <;> clean_wf
  | (with_reducible apply ev_pow) <;> clean_wf
  | (with_reducible apply ev_neg) <;> clean_wf
  | (with_reducible apply ev_lt) <;> clean_wf
  | (with_reducible apply ev_le) <;> clean_wf
  | (with_reducible apply ev_gt) <;> clean_wf
  | (with_reducible apply ev_ge) <;> clean_wf
  | (with_reducible apply ev_eqi) <;> clean_wf
  | (with_reducible apply ev_nei) <;> clean_wf
  | (with_reducible apply ev_len) <;> clean_wf
  | (with_reducible apply ev_ixL) <;> clean_wf
  | (with_reducible apply ev_min) <;> clean_wf
  | (with_reducible apply ev_max) <;> clean_wf
  | (with_reducible apply ev_abs) <;> clean_wf
  | (with_reducible apply ev_intB) <;> clean_wf
  | (with_reducible apply ea_1) <;> clean_wf
  | (with_reducible apply ea_2) <;> clean_wf
  | (with_reducible apply ea_3) <;> clean_wf
  | with_reducible exact ea_nil
  | (with_reducible apply ea_cons) <;> clean_wf
  | with_reducible exact el_nil
  | (with_reducible apply ep_lt) <;> clean_wf
  | (with_reducible apply ep_le) <;> clean_wf
  | (with_reducible apply ep_gt) <;> clean_wf
  | (with_reducible apply ep_ge) <;> clean_wf
  | (with_reducible apply ep_eqi) <;> clean_wf
  | (with_reducible apply ep_nei) <;> clean_wf
  | (with_reducible apply ep_not) <;> clean_wf
  | ((with_reducible apply ep_and) <;> first | (intro _; clean_wf; done) | clean_wf)
  | ((with_reducible apply ep_or) <;> first | (intro _; clean_wf; done) | clean_wf)
  | (with_reducible apply et_t) <;> clean_wf
  | (with_reducible apply eo_is) <;> clean_wf
  | with_reducible exact eo_no
  | array_get_dec
  | bv_omega
  | rfl
  | skip)
local macro_rules | `(tactic| symm_saturate) => `(tactic| first
  | ((with_reducible apply q_set); (focus (clean_wf; done)))
  | ((with_reducible apply s_set); (focus (clean_wf; done)))
  | ((with_reducible apply q_aug (hx := rfl)); (focus (clean_wf; done)))
  | ((with_reducible apply s_aug (hx := rfl)); (focus (clean_wf; done)))
  | ((with_reducible apply q_augC (hx := rfl)); (focus (clean_wf; done)))
  | ((with_reducible apply s_augC (hx := rfl)); (focus (clean_wf; done))))
local macro_rules | `(tactic| subst_eqs) => `(tactic| repeat' (first
  | with_reducible apply w_c
  | ((with_reducible apply w_v'); (focus rfl))
  | with_reducible apply w_op
  | with_reducible apply w_cb
  | with_reducible apply w_cons
  | with_reducible apply w_nil
  | with_reducible apply r_add
  | with_reducible apply r_sub
  | ((with_reducible apply r_mul); (focus (bv_omega; done)))
  | ((with_reducible apply r_div); (focus (bv_omega; done)))
  | ((with_reducible apply r_mod); (focus (bv_omega; done)))
  | ((with_reducible apply r_pow); (focus (bv_omega; done)))
  | with_reducible apply r_lt
  | with_reducible apply r_le
  | with_reducible apply r_gt
  | with_reducible apply r_ge
  | with_reducible apply r_min
  | with_reducible apply r_max
  | with_reducible apply r_intB
  | ((with_reducible apply r_len); (focus (array_get_dec; done)))
  | with_reducible apply w_callW
  | with_reducible apply q_setW
  | with_reducible apply s_setW
  | with_reducible apply s_retW))

/-- a list of pairs that was just made -/
def NewP (H : Hp) (qs : List (Int × Int)) (Q : VK) : Prop := ∀ (p1 : Addr) (as : List Addr) (H' : Hp), H p1 = none → (∀ b ∈ as, H b = none) → Ex H H' → Nod H' → Prs H' p1 as qs → Q (.ref p1) H'
theorem zv_set (l : List Nat) (j x : Nat) : (zv l).set j (.int (x : Int)) = zv (l.set j x) := by
  rw [zv, zl, List.map_map, zv, zl, List.map_map, List.map_set]
  rfl
theorem w_forR3 {K : PySem.W.Frag} {σ : L2.St} {H : Hp} {D : Ends} {g : TG} {tu : TS} {ta : TA} (h : ta σ H fun vs H1 => ∃ (i j c : Int) (n : Nat), vs = [.int i, .int j, .int c] ∧ RgC i j c n ∧ Lp (Itc i c n) g tu D σ H1) : tFor (iRng3 ta) g tu D σ H := h
theorem lp_rangeC {lo c : Int} {n k : Nat} {tu : TS} {D : Ends} {σ : L2.St} {H : Hp} (Pv : Nat → L2.St → Hp → Prop) (h0 : Pv 0 σ H)
    (hs : ∀ i σ' H', i < n → Pv i σ' H' → tu { D with nx := Pv (i + 1), ct := Pv (i + 1), bk := D.nx } (σ'.set k (some (.int (lo + (i : Nat) * c)))) H') (hd : ∀ σ' H', Pv n σ' H' → D.nx σ' H') : Lp (Itc lo c n) (gName k) tu D σ H := for_rangeC Pv h0 hs hd
theorem el_rep1 {σ : L2.St} {H : Hp} {tk : TE} {x : V} {tx : TE} {k : Nat} [Nod H] (hx : ∀ H1, Ev tx σ H1 x) (hk : ∀ H1, Ev tk σ H1 (.int (k : Int))) (hz : k ≤ 16000000) {Q : VK} (q : ∀ r p, H r = none → upd H r (.lst [x]) p = none → Q (.ref p) (upd (upd H r (.lst [x])) p (.lst (List.replicate k x)))) : tOp rRep (tLst (tCons tx tNil)) tk σ H Q :=
  w_op (w_evL (el_lst (ea_1 (hx _)) (by simp)) fun r hr => w_ev (hk _) ⟨r, (k : Int), [x], rfl, rfl, upd_same, by omega, by omega, by
    rw [sizeLine_eq, Int.toNat_natCast]
    simp
    omega, fun p hp => by
    rw [Int.toNat_natCast]
    have : (List.replicate k [x]).flatten = List.replicate k x := by
      clear hp q hk hz
      induction k with
      | zero => rfl
      | succ k ih => rw [List.replicate_succ, List.flatten_cons, ih]; rfl
    rw [this]
    exact q r p hr hp⟩)
theorem rep_fl (B : Nat) : List.replicate (B + 1) (V.int 1) = zv (MQ.fl B (MQ.sv 1)) := by
  rw [MQ.sv_one]
  unfold MQ.fl
  rw [zv, zl, List.map_map, List.map_map]
  exact (List.eq_replicate_iff.mpr ⟨by simp, fun x hx => by obtain ⟨_, _, rfl⟩ := List.mem_map.mp hx; rfl⟩).symm
theorem w_bm0 {K : PySem.W.Frag} {σ : L2.St} {H : Hp} {T : String} {r : V → List V → Hp → VK → Prop} {to : TE} {Q : VK} (h : to σ H fun x H1 => tyV K T x H1 ∧ r x [] H1 Q) : tBM0 K T r to σ H Q := h
theorem ty_dict {K : PySem.W.Frag} {H : Hp} {p : Addr} {kvs : List (Key × V)} (h : H p = some (.dK kvs)) : tyV K "dict" (.ref p) H := Or.inr (Or.inr (Or.inl ⟨rfl, Or.inl ⟨_, h⟩⟩))
/-- the sieve's list -/
def sp_greatest_to (K : PySem.W.Frag) : Sp := fun vs H Q _ => Nod H ∧ ∃ (b : Nat), vs = [.int (b : Int)] ∧ 1 ≤ b ∧ b ≤ 20000 ∧ ∀ p : Addr, H p = none → Q (.ref p) (upd H p (.lst (zv (1 :: MQ.gl b))))
/-- slots: bound found number times -/
abbrev n_greatest_to : List Str := ["bound", "found", "number", "times"]
def t_greatest_to (K : PySem.W.Frag) : TS := (sFg (tSeq (tAsg (tOp rRep (tLst (tCons (tC (.int 1)) tNil)) (tOp oAdd (tVar 0) (tC (.int 1)))) (gName 1))
  (tSeq (tFor (iRng2 (tCons (tC (.int 2)) (tCons (tOp oAdd (tVar 0) (tC (.int 1))) tNil))) (gName 2) (tIfS (tTest (tOp rEq (tOp (rIxL K) (tVar 1) (tVar 2)) (tC (.int 1)))) (tFor (iRng3 (tCons (tVar 2) (tCons (tOp oAdd (tVar 0) (tC (.int 1))) (tCons (tVar 2) tNil)))) (gName 3) (tAsg (tVar 2) (gSub (tVar 1) (tVar 3) rSetL))) tNext))
  (tRet (tVar 1)))))
theorem rgc_of {b n : Nat} (h0 : 2 ≤ n) (hn : n ≤ b) (hb : b ≤ 20000) : RgC (n : Int) ((b : Int) + 1) (n : Int) (b / n) := by
  have hdiv : 1 ≤ b / n := (Nat.one_le_div_iff (by omega)).mpr hn
  have e3 : Builtin.Range.rangeSize (n : Int) ((b : Int) + 1) (n : Int) = ((b / n : Nat) : Int) := by
    unfold Builtin.Range.rangeSize
    rw [if_pos (by omega), if_pos (by omega)]
    have e : (b : Int) + 1 - (n : Int) - 1 = ((b - n : Nat) : Int) := by omega
    rw [e, ← Int.natCast_ediv]
    have e2 := Nat.sub_mul_div_of_le b n 1 (by omega)
    rw [Nat.mul_one] at e2
    omega
  have hd2 : b / n ≤ b := Nat.div_le_self b n
  refine ⟨by omega, by omega, ?_, e3⟩
  unfold Builtin.Range.small
  rw [e3]
  simp only [Builtin.Range.rangeFitsLong, Bool.and_eq_true, Bool.or_eq_true, decide_eq_true_eq, beq_iff_eq]
  generalize b / n = z at hd2 hdiv
  rw [if_pos (show (n : Int) > 0 by omega)]
  simp only [Bool.and_eq_true, decide_eq_true_eq]
  omega
theorem r_greatest_to {K : PySem.W.Frag} {vs : List V} {H : Hp} {Q : VK} {E : XK} (h : sp_greatest_to K vs H Q E) : t_greatest_to K { nx := fun _ H' => Q .non H', rt := Q } (start n_greatest_to vs) H := by
  obtain ⟨nd, b, rfl, hb1, hb2, q⟩ := h
  refine fg_body (q_setW (el_rep1 (k := b + 1) (fun _ => ev_c) (fun _ => ev_eq (ev_add (i := (b : Int)) (ev_v 0) ev_c) rfl) (by omega) fun r p hr hp => ?_))
  rw [rep_fl]
  have o : Own H [(p, zv (MQ.fl b (MQ.sv 1)))] _ := (Own.nil.tmp (xs := [.int 1]) hr).new hp
  refine q_forR2 (lo := 2) (k := (b : Int) + 1) (ea_2 ev_c (ev_add (i := (b : Int)) (ev_v 0) ev_c)) (by omega) (fun i σ' H' => ∃ y2 y3 : Option V, σ' = [some (.int (b : Int)), some (.ref p), y2, y3] ∧ Own H [(p, zv (MQ.fl b (MQ.sv (i + 1))))] H' ) ⟨none, none, rfl, o⟩ (fun i σ' H' hi hv => ?_) fun σ' H' hv => ?_
  · clear o
    obtain ⟨y2, y3, rfl, o⟩ := hv
    obtain ⟨n, hn⟩ : ∃ n : Nat, n = i + 2 := ⟨_, rfl⟩
    have hnb : n ≤ b := by omega
    have en : (2 : Int) + (i : Int) = (n : Int) := by omega
    rw [en]
    have hget : (MQ.fl b (MQ.sv (i + 1)))[n]? = some (MQ.sv (i + 1) n) := MQ.fl_get hnb
    have hlen := MQ.fl_len b (MQ.sv (i + 1))
    have eat : atI (zv (MQ.fl b (MQ.sv (i + 1)))) (n : Int) = some (.int (MQ.sv (i + 1) n : Int)) := at_of rfl (zv_get hget)
    have htest := MQ.sv_test (k := i + 1) (by omega)
    refine s_whenP (ep_eqi (i := (MQ.sv (i + 1) n : Int)) (j := 1) (ev_ixL (ev_v 1) (ev_v 2) (o.sqi 0 rfl) eat) ev_c) (fun hc => ?_) fun hc => ?_
    · have hpr : MQ.Pr (i + 1 + 1) := htest.mp (by rw [show i + 1 + 1 = n by omega]; omega)
      have hn0 : 0 < n := by omega
      have hm : b < n * (b / n + 1) := by rw [Nat.mul_add, Nat.mul_one]; exact Nat.lt_mul_div_succ b hn0
      have hmle : n * (b / n) ≤ b := Nat.mul_div_le b n
      refine w_forR3 (K := K) (ea_3 (ev_v 2) (ev_add (i := (b : Int)) (ev_v 0) ev_c) (ev_v 2) _ ⟨_, _, _, b / n, rfl, rgc_of (by omega) hnb hb2, lp_rangeC (fun j σ' H' => ∃ y3 : Option V, σ' = [some (.int (b : Int)), some (.ref p), some (.int (n : Int)), y3] ∧ Own H [(p, zv (MQ.fl b (MQ.sw n j (MQ.sv (i + 1)))))] H') ⟨y3, rfl, by rw [MQ.sw_zero]; exact o⟩ (fun j σ' H' hj hv => ?_) fun σ' H' hv => ?_⟩)
      · obtain ⟨y3, rfl, o⟩ := hv
        have hjb : n * (j + 1) ≤ b := Nat.le_trans (Nat.mul_le_mul_left n (by omega)) hmle
        have eix : (n : Int) + (j : Int) * (n : Int) = ((n * (j + 1) : Nat) : Int) := by
          rw [Nat.mul_add, Nat.mul_one, Nat.mul_comm n j]; simp; omega
        rw [eix]
        refine s_sub (j := n * (j + 1)) (o.atI 0 rfl) (ixn (by rw [zv_len, MQ.fl_len]; omega)) (ev_v 2) (ev_v 1) (ev_v 3) ⟨_, rfl, ?_⟩
        rw [zv_set, MQ.fl_set hjb, MQ.sw_succ hn0]
        exact o.mut 0 rfl
      · obtain ⟨y3, rfl, o⟩ := hv
        refine ⟨_, _, rfl, ?_⟩
        have e1 : MQ.fl b (MQ.sw n (b / n) (MQ.sv (i + 1))) = MQ.fl b (MQ.sv (i + 1 + 1)) := MQ.fl_congr fun m hmb => by
          rw [show n = i + 1 + 1 by omega]
          rw [show n = i + 1 + 1 by omega] at hm
          exact MQ.sw_end hpr hm hmb
        rw [e1] at o
        exact o
    · have hpr : ¬ MQ.Pr (i + 1 + 1) := fun z => hc (by have := htest.mpr z; rw [show i + 1 + 1 = n by omega] at this; omega)
      refine ⟨_, _, rfl, ?_⟩
      rw [MQ.sv_skip hpr]
      exact o
  · obtain ⟨y2, y3, rfl, o⟩ := hv
    rw [show ((b : Int) + 1 - 2).toNat + 1 = b by omega, MQ.sv_done] at o
    exact s_ret (ev_v 1) ⟨_, o.ret 0 rfl, q p (o.offI 0 rfl)⟩

/-! ### counted -/
theorem Own.dput {B H : Hp} {L : List (Addr × List V)} {pd : Addr} {kvs kvs' : List (Key × V)} (o : Own B L H) (h : B pd = some (.dK kvs)) : Own (upd B pd (.dK kvs')) L (upd H pd (.dK kvs')) where
  nod := have := o.nod; inferInstance
  ex := fun b u hb => by
    by_cases e : b = pd
    · subst e; rw [upd_same] at hb ⊢; exact hb
    · rw [upd_ne e] at hb ⊢; exact o.ex b u hb
  off := fun q hq => by
    have : q.1 ≠ pd := fun e => by have := o.off q hq; rw [e, h] at this; cases this
    rw [upd_ne this]; exact o.off q hq
  dis := o.dis
  has := fun q hq => by
    have : q.1 ≠ pd := fun e => by have := o.off q hq; rw [e, h] at this; cases this
    rw [upd_ne this]; exact o.has q hq
theorem val_pK (qs : List (Int × Int)) (k : Int) : valV (qs.map pK) (Sum.inl k) = ((qs.find? fun z => decide (z.1 = k)).map (·.2)).map V.int := by
  unfold valV
  rw [List.find?_map]
  have : ((fun kv : Key × V => decide (kv.1 = Sum.inl k)) ∘ pK) = fun z : Int × Int => decide (z.1 = k) := by
    funext z
    show decide ((Sum.inl z.1 : Key) = Sum.inl k) = decide (z.1 = k)
    exact decide_eq_decide.mpr ⟨fun h => Sum.inl.inj h, fun h => by rw [h]⟩
  rw [this, Option.map_map, Option.map_map]
  rfl
theorem put_pK (qs : List (Int × Int)) (k v : Int) : putK (qs.map pK) (Sum.inl k) (V.int v) = (MQ.putC qs k v).map pK := by
  unfold putK MQ.putC
  have e1 : ((qs.map pK).any fun kv => decide (kv.1 = (Sum.inl k : Key))) = qs.any fun z => decide (z.1 = k) := by
    rw [List.any_map]
    congr 1
    funext z
    show decide ((Sum.inl z.1 : Key) = Sum.inl k) = decide (z.1 = k)
    exact decide_eq_decide.mpr ⟨fun h => Sum.inl.inj h, fun h => by rw [h]⟩
  by_cases h : (qs.any fun z => decide (z.1 = k)) = true
  · rw [if_pos (by rw [e1]; exact h), if_pos h, List.map_map, List.map_map]
    refine List.map_congr_left fun z _ => ?_
    show (if (Sum.inl z.1 : Key) = Sum.inl k then ((Sum.inl z.1 : Key), V.int v) else pK z) = pK (if z.1 = k then (z.1, v) else z)
    by_cases hz : z.1 = k
    · rw [if_pos hz, if_pos (by rw [hz])]
    · rw [if_neg hz, if_neg (fun y => hz (Sum.inl.inj y))]
  · rw [if_neg (by rw [e1]; exact h), if_neg h, List.map_append]; rfl
/-- what the counting dict tells: found.get(part, 0) -/
theorem get_or {L : List Nat} {qs : List (Int × Int)} (c : MQ.Cdict L qs) (x : Nat) : (valV (qs.map pK) (Sum.inl (x : Int))).getD (.int 0) = .int (L.count x : Int) := by
  rw [val_pK, c.get x]
  by_cases h : x ∈ L
  · rw [if_pos h]; rfl
  · rw [if_neg h, List.count_eq_zero.mpr h]; rfl
noncomputable def gcs (b : Nat) : List (Int × Int) := MQ.cts b (MQ.gl b)
theorem gl_le {b x : Nat} (h : x ∈ MQ.gl b) : x ≤ b := (MQ.gl_mem h).2
theorem gcs_len (b : Nat) : (gcs b).length ≤ b + 1 := by
  unfold gcs MQ.cts
  rw [List.length_map]
  exact Nat.le_trans (List.length_filter_le _ _) (by simp)
def sp_by_greatest (K : PySem.W.Frag) : Sp := fun vs H Q _ => Nod H ∧ ∃ (b : Nat), vs = [.int (b : Int)] ∧ 1 ≤ b ∧ b ≤ 20000 ∧ NewP H (gcs b) Q
/-- slots: bound found part -/
abbrev n_by_greatest : List Str := ["bound", "found", "part"]
def t_by_greatest (K : PySem.W.Frag) : TS := (sFg (tSeq (tAsg tDNewK (gName 1))
  (tSeq (tFor (iList K (tSl (rSlL K) (tCall (sp_greatest_to K) [] E0 (tCons (tVar 0) tNil)) (tPart (tC (.int 1))) tNoPart)) (gName 2) (sDPut (tVar 1) (tVar 2) (tOp oAdd (tDGet2 (tVar 1) (tVar 2) (tC (.int 0))) (tC (.int 1)))))
  (tRet (tCB rSortItK (tCons (tBM0 K "dict" rItemsK (tVar 1)) tNil))))))
theorem r_by_greatest {K : PySem.W.Frag} {vs : List V} {H : Hp} {Q : VK} {E : XK} (h : sp_by_greatest K vs H Q E) : t_by_greatest K { nx := fun _ H' => Q .non H', rt := Q } (start n_by_greatest vs) H := by
  obtain ⟨nd, b, rfl, hb1, hb2, q⟩ := h
  refine fg_body (q_setW fun pd hpd => ?_)
  have o : Own (upd H pd (.dK [])) [] (upd H pd (.dK [])) := Own.nil
  refine q_seq (w_forL (w_slW (w_callW (w_one (w_v 0 ⟨o.nod, b, rfl, hb1, hb2, fun p hp => ?_⟩)))))
  replace o := o.new (xs := zv (1 :: MQ.gl b)) hp
  refine eo_is (ev_eq (y := .int ((1 : Nat) : Int)) ev_c rfl) _ (eo_no _ ⟨p, zv (1 :: MQ.gl b), rfl, o.sqi 0 rfl, fun p1 hp1 => ?_⟩)
  rw [cut_fromN]
  replace o : Own (upd H pd (.dK [])) [(p1, zv (MQ.gl b))] _ := (o.new (xs := zv ((1 :: MQ.gl b).drop 1)) hp1).drop2
  have hglen := MQ.gl_len b
  refine ⟨p1, rfl, ⟨_, o.sqi 0 rfl⟩, lp_list (xs := zv (MQ.gl b)) (fun i σ' H' => ∃ (qs : List (Int × Int)) (y2 : Option V), σ' = [some (.int (b : Int)), some (.ref pd), y2] ∧ MQ.Cdict ((MQ.gl b).take i) qs ∧ qs.length ≤ i ∧ Own (upd H pd (.dK (qs.map pK))) [(p1, zv (MQ.gl b))] H') ⟨[], none, rfl, MQ.Cdict.nil, by simp, o⟩ (fun i σ' H' _ hv => ?_) (fun i v σ' H' hx0 hv => ?_) fun σ' H' hv => ?_⟩
  · obtain ⟨_, _, _, _, _, o⟩ := hv
    exact o.sqi 0 rfl
  · clear o
    obtain ⟨qs, y2, rfl, c, hl, o⟩ := hv
    obtain ⟨x, hx, rfl⟩ := zv_some hx0
    have hlt := (List.getElem?_eq_some_iff.mp hx).1
    have etake : (MQ.gl b).take (i + 1) = (MQ.gl b).take i ++ [x] := by rw [List.take_add_one, hx]; rfl
    have hd : H' pd = some (.dK (qs.map pK)) := o.ex _ _ upd_same
    refine w_op (w_v 1 ⟨pd, rfl, .inl ⟨_, .inl hd⟩, w_v 2 (w_c ⟨_, DGet.k (k := Sum.inl (x : Int)) hd, ?_⟩)⟩)
    rw [get_or c]
    refine w_c (r_add (w_v 1 (w_v 2 ⟨pd, _, rfl, DPut.k (k := Sum.inl (x : Int)) hd (by rw [List.length_map]; exact szl (by omega)), MQ.putC qs (x : Int) ((((MQ.gl b).take i).count x : Int) + 1), _, rfl, ?_, ?_, ?_⟩)))
    · rw [etake]; exact c.put x
    · have := MQ.putC_len qs (x : Int) ((((MQ.gl b).take i).count x : Int) + 1)
      omega
    · rw [put_pK]
      have o2 := o.dput (kvs' := (MQ.putC qs (x : Int) ((((MQ.gl b).take i).count x : Int) + 1)).map pK) upd_same
      rw [upd_upd] at o2
      exact o2
  · obtain ⟨qs, y2, rfl, c, hl, o⟩ := hv
    rw [zv_len, List.take_length] at c
    have hd : H' pd = some (.dK (qs.map pK)) := o.ex _ _ upd_same
    refine s_retW (w_cb (w_one (w_bm0 (w_v 1 ⟨ty_dict hd, pd, _, rfl, rfl, hd, fun pi hpi => ?_⟩))))
    have hd2 : upd H' pi (L2.DX.itemsO pi pd) pd = some (.dK (qs.map pK)) := by rw [upd_ne (ne_of_none hd hpi)]; exact hd
    refine ⟨pi, pd, qs, rfl, upd_same, hd2, fun H2 l as qs' hperm hsort hl0 has e2 n2 hlst hlen htup => ?_⟩
    have eq : qs' = gcs b := c.sorted (fun x hx => gl_le hx) hperm hsort
    have eH : Ex H (upd H' pi (L2.DX.itemsO pi pd)) := ex_upd (ex_none (ex_trans (ex_new hpd) o.ex) hpi) (ex_trans (ex_new hpd) o.ex)
    have pr : Prs H2 l as (gcs b) := by
      rw [← eq]
      exact ⟨hlst, hlen, htup⟩
    have hS : ∀ b ∈ l :: as, H b = none ∧ ∃ u, fresh u ∧ H2 b = some u := fun b hb => ⟨by
      rcases List.mem_cons.mp hb with rfl | hb
      · exact ex_none eH hl0
      · exact ex_none eH (has b hb), pr.all b hb⟩
    exact ⟨_, fg_keepS (ex_trans eH e2) hS, q l as _ (hS l List.mem_cons_self).1 (fun b hb => (hS b (List.mem_cons_of_mem _ hb)).1) (keepS_ex fun b hb => (hS b hb).1) (keepS_nod fun b hb => (hS b hb).2) (pr.keep List.mem_cons_self fun b hb => List.mem_cons_of_mem _ hb)⟩
/-! ### with at most -/
/-- how many numbers to b have a greatest part of at most m -/
noncomputable def mw (b : Nat) (m : Int) : Nat := ((MQ.gl b).filter fun (x : Nat) => decide ((x : Int) ≤ m)).length
def sp_many_with (K : PySem.W.Frag) : Sp := fun vs H Q _ => Nod H ∧ ∃ (b : Nat) (m : Int), vs = [.int (b : Int), .int m] ∧ 1 ≤ b ∧ b ≤ 20000 ∧ Q (.int (mw b m : Int)) H
/-- slots: bound most part count -/
abbrev n_many_with : List Str := ["bound", "most", "part", "count"]
def t_many_with (K : PySem.W.Frag) : TS := (sFg (tRet (tCB (rSum K) (tCons (tLc (iList K (tCall (sp_by_greatest K) [] E0 (tCons (tVar 0) tNil))) (gTup K 2 (gCons (gName 2) (gCons (gName 3) gNil))) (tTest (tOp oLe (tVar 2) (tVar 1))) (tVar 3) [2, 3]) tNil))))
theorem r_many_with {K : PySem.W.Frag} {vs : List V} {H : Hp} {Q : VK} {E : XK} (h : sp_many_with K vs H Q E) : t_many_with K { nx := fun _ H' => Q .non H', rt := Q } (start n_many_with vs) H := by
  obtain ⟨nd, b, m, rfl, hb1, hb2, q⟩ := h
  refine fg_body (s_retW (w_cb (w_one (w_lcLW (w_callW (w_one (w_v 0 ⟨nd, b, rfl, hb1, hb2, fun p1 as H1 hp1 has e1 n1 pr => ⟨p1, rfl, ⟨_, sq_at pr.lst⟩, ?_⟩⟩)))))))
  have o : Own H1 [] H1 := Own.nil
  have hlen := gcs_len b
  have hsum := MQ.cts_sum (B := b) (L := MQ.gl b) (fun x hx => gl_le hx) m
  have hsum : (((gcs b).filter fun z => decide (z.1 ≤ m)).map (·.2)).sum = (mw b m : Int) := hsum
  generalize gcs b = qs at pr hlen hsum
  refine lcat_list (K := K) (xs := as.map V.ref) (fun D j H2 => Own H1 [(D, ((((qs.take j).filter fun z => decide (z.1 ≤ m)).map (·.2)).map V.int))] H2) (fun D hD => by simpa using o.new (xs := []) hD) (fun D j H2 hD o => sq_at (o.ex _ _ pr.lst)) (fun D j v H2 hD hj o => ?_) fun D H2 hD o => ?_
  · obtain ⟨b', z, e1', rfl, hz, hb'⟩ := pr.get hj
    have hlt := (List.getElem?_eq_some_iff.mp hz).1
    have etake : qs.take (j + 1) = qs.take j ++ [z] := by rw [List.take_add_one, hz]; rfl
    refine g_pair (o.ex _ _ hb') ⟨rfl, w_evT (et_t (ev_le (i := z.1) (j := m) (ev_v 2) (ev_v 1))) ?_⟩
    by_cases hle : z.1 ≤ m
    · rw [decide_eq_true hle]
      refine iteT (w_v 3 ⟨_, o.atI 0 rfl, ?_, ?_⟩)
      · rw [List.length_map, List.length_map]
        refine szl (Nat.lt_of_le_of_lt (List.length_filter_le _ _) ?_)
        rw [List.length_take]; omega
      · rw [etake, List.filter_append, List.filter_cons_of_pos (by simpa using hle), List.map_append, List.map_append]
        exact o.mut 0 rfl
    · rw [decide_eq_false hle]
      refine iteF ?_
      rw [etake, List.filter_append, List.filter_cons_of_neg (by simpa using hle), List.filter_nil, List.append_nil]
      exact o
  · rw [List.length_map, pr.len, List.take_length] at o
    refine ⟨D, _, rfl, o.sqi 0 rfl, ⟨H, fg_same (ex_trans e1 o.ex), ?_⟩⟩
    rw [hsum]
    exact q
end Px
set_option Elab.async false
set_option linter.all false
set_option maxRecDepth 100000
set_option maxHeartbeats 4000000
namespace Px
open PySem L2 MA
local macro_rules | `(tactic| bv_omega) => `(tactic| first | assumption | omega | exact cm (by omega) | exact cd (by omega) | exact cp (by omega) | exact trivial)
local macro_rules | `(tactic| array_get_dec) => `(tactic| first
  | assumption
  | exact sq_up
  | exact Own.sqi (by assumption) 0 (by rfl)
  | exact Own.sqi (by assumption) 1 (by rfl)
  | exact Own.sqi (by assumption) 2 (by rfl)
  | exact Own.sqi (by assumption) 3 (by rfl)
  | exact Own.sqi (by assumption) 4 (by rfl)
  | exact Own.sq (by assumption) (by assumption)
  | exact sq_new (by assumption) (by assumption))
local macro_rules | `(tactic| clean_wf) => `(tactic| first
  | with_reducible exact ev_c
  | (with_reducible apply ev_v') <;> rfl
  | (with_reducible apply ev_add) <;> clean_wf
  | (with_reducible apply ev_sub) <;> clean_wf
  | (with_reducible apply ev_mul) <;> clean_wf
  | (with_reducible apply ev_mod) <;> clean_wf
  | (with_reducible apply ev_div) <;> clean_wf
  | (with_reducible apply ev_pow) <;> clean_wf
  | (with_reducible apply ev_neg) <;> clean_wf
  | (with_reducible apply ev_lt) <;> clean_wf
  | (with_reducible apply ev_le) <;> clean_wf
  | (with_reducible apply ev_gt) <;> clean_wf
  | (with_reducible apply ev_ge) <;> clean_wf
  | (with_reducible apply ev_eqi) <;> clean_wf
  | (with_reducible apply ev_nei) <;> clean_wf
  | (with_reducible apply ev_len) <;> clean_wf
  | (with_reducible apply ev_ixL) <;> clean_wf
  | (with_reducible apply ev_min) <;> clean_wf
  | (with_reducible apply ev_max) <;> clean_wf
  | (with_reducible apply ev_abs) <;> clean_wf
  | (with_reducible apply ev_intB) <;> clean_wf
  | (with_reducible apply ea_1) <;> clean_wf
  | (with_reducible apply ea_2) <;> clean_wf
  | (with_reducible apply ea_3) <;> clean_wf
  | with_reducible exact ea_nil
  | (with_reducible apply ea_cons) <;> clean_wf
  | with_reducible exact el_nil
  | (with_reducible apply ep_lt) <;> clean_wf
  | (with_reducible apply ep_le) <;> clean_wf
  | (with_reducible apply ep_gt) <;> clean_wf
  | (with_reducible apply ep_ge) <;> clean_wf
  | (with_reducible apply ep_eqi) <;> clean_wf
  | (with_reducible apply ep_nei) <;> clean_wf
  | (with_reducible apply ep_not) <;> clean_wf
  | ((with_reducible apply ep_and) <;> first | (intro _; clean_wf; done) | clean_wf)
  | ((with_reducible apply ep_or) <;> first | (intro _; clean_wf; done) | clean_wf)
  | (with_reducible apply et_t) <;> clean_wf
  | (with_reducible apply eo_is) <;> clean_wf
  | with_reducible exact eo_no
  | array_get_dec
  | bv_omega
  | rfl
  | skip)
local macro_rules | `(tactic| symm_saturate) => `(tactic| first
  | ((with_reducible apply q_set); (focus (clean_wf; done)))
  | ((with_reducible apply s_set); (focus (clean_wf; done)))
  | ((with_reducible apply q_aug (hx := rfl)); (focus (clean_wf; done)))
  | ((with_reducible apply s_aug (hx := rfl)); (focus (clean_wf; done)))
  | ((with_reducible apply q_augC (hx := rfl)); (focus (clean_wf; done)))
  | ((with_reducible apply s_augC (hx := rfl)); (focus (clean_wf; done))))
local macro_rules | `(tactic| subst_eqs) => `(tactic| repeat' (first
  | with_reducible apply w_c
  | ((with_reducible apply w_v'); (focus rfl))
  | with_reducible apply w_op
  | with_reducible apply w_cb
  | with_reducible apply w_cons
  | with_reducible apply w_nil
  | with_reducible apply r_add
  | with_reducible apply r_sub
  | ((with_reducible apply r_mul); (focus (bv_omega; done)))
  | ((with_reducible apply r_div); (focus (bv_omega; done)))
  | ((with_reducible apply r_mod); (focus (bv_omega; done)))
  | ((with_reducible apply r_pow); (focus (bv_omega; done)))
  | with_reducible apply r_lt
  | with_reducible apply r_le
  | with_reducible apply r_gt
  | with_reducible apply r_ge
  | with_reducible apply r_min
  | with_reducible apply r_max
  | with_reducible apply r_intB
  | ((with_reducible apply r_len); (focus (array_get_dec; done)))
  | with_reducible apply w_callW
  | with_reducible apply q_setW
  | with_reducible apply s_setW
  | with_reducible apply s_retW))

/-- a list that a call has made is one's own -/
theorem Own.adopt {B H H' : Hp} {L : List (Addr × List V)} {p : Addr} {xs : List V} (o : Own B L H) (e : Ex H H') (n : Nod H') (h0 : H p = none) (h1 : H' p = some (.lst xs)) : Own B ((p, xs) :: L) H' where
  nod := n
  ex := ex_trans o.ex e
  off := fun q hq => by
    rcases List.mem_cons.mp hq with rfl | hq
    · exact ex_none o.ex h0
    · exact o.off q hq
  dis := by
    rw [List.map_cons, List.nodup_cons]
    refine ⟨fun z => ?_, o.dis⟩
    obtain ⟨q, hq, eq⟩ := List.mem_map.mp z
    have := o.has q hq
    rw [eq, h0] at this
    cases this
  has := fun q hq => by
    rcases List.mem_cons.mp hq with rfl | hq
    · exact h1
    · exact e _ _ (o.has q hq)
/-! ### pairs that are made one by one -/
structure PrB (H B : Hp) (as : List Addr) (qs : List (Int × Int)) : Prop where
  ex : Ex H B
  len : as.length = qs.length
  new : ∀ b ∈ as, H b = none
  tup : ∀ (i : Nat) (b : Addr) (q : Int × Int), as[i]? = some b → qs[i]? = some q → B b = some (.tup (pvals q))
theorem PrB.nil {H : Hp} : PrB H H [] [] := ⟨ex_refl, rfl, (fun _ h => (List.not_mem_nil h).elim), fun i b q h => by simp at h⟩
theorem PrB.snoc {H B : Hp} {as : List Addr} {qs : List (Int × Int)} {t : Addr} {q : Int × Int} (c : PrB H B as qs) (ht : B t = none) : PrB H (upd B t (.tup (pvals q))) (as ++ [t]) (qs ++ [q]) where
  ex := ex_trans c.ex (ex_new ht)
  len := by simp [c.len]
  new := fun b hb => by
    rcases List.mem_append.mp hb with hb | hb
    · exact c.new b hb
    · rw [List.mem_singleton.mp hb]; exact ex_none c.ex ht
  tup := fun k b y h1 h2 => by
    have hl := c.len
    rcases Nat.lt_or_ge k as.length with z | z
    · rw [List.getElem?_append_left z] at h1
      rw [List.getElem?_append_left (by omega)] at h2
      have := c.tup k b y h1 h2
      rw [upd_ne (fun w => by rw [w, ht] at this; cases this)]
      exact this
    · rw [List.getElem?_append_right z] at h1
      rw [List.getElem?_append_right (by omega)] at h2
      have hk : k - as.length = 0 := by
        rcases Nat.eq_zero_or_pos (k - as.length) with y | y
        · exact y
        · rw [List.getElem?_eq_none (by simp; omega)] at h1; cases h1
      rw [hk] at h1
      rw [← hl, hk] at h2
      cases h1
      cases h2
      exact upd_same
theorem PrB.prs {H B H' : Hp} {as : List Addr} {qs : List (Int × Int)} {p : Addr} (c : PrB H B as qs) (e : Ex B H') (h : H' p = some (.lst (as.map V.ref))) : Prs H' p as qs := ⟨h, c.len, fun i b q h1 h2 => e _ _ (c.tup i b q h1 h2)⟩
/-- such a list is what a def gives back -/
theorem NewP.fg {H H' : Hp} {as : List Addr} {qs : List (Int × Int)} {p : Addr} {Q : VK} [Nod H] (q : NewP H qs Q) (e : Ex H H') (pr : Prs H' p as qs) (h0 : H p = none) (hnew : ∀ b ∈ as, H b = none) : ∃ H'', Fg H H' H'' ∧ Q (.ref p) H'' := by
  have hS : ∀ b ∈ p :: as, H b = none ∧ ∃ u, fresh u ∧ H' b = some u := fun b hb => ⟨by
    rcases List.mem_cons.mp hb with rfl | hb
    · exact h0
    · exact hnew b hb, pr.all b hb⟩
  exact ⟨_, fg_keepS e hS, q p as _ h0 hnew (keepS_ex fun b hb => (hS b hb).1) (keepS_nod fun b hb => (hS b hb).2) (pr.keep List.mem_cons_self fun b hb => List.mem_cons_of_mem _ hb)⟩
theorem PrB.ret {H B H' : Hp} {L : List (Addr × List V)} {as : List Addr} {qs : List (Int × Int)} {p : Addr} {Q : VK} [Nod H] (c : PrB H B as qs) (o : Own B L H') (i : Nat) (hi : L[i]? = some (p, as.map V.ref)) (q : NewP H qs Q) : ∃ H'', Fg H H' H'' ∧ Q (.ref p) H'' :=
  q.fg (ex_trans c.ex o.ex) (c.prs o.ex (o.atI i hi)) (ex_none c.ex (o.offI i hi)) c.new
/-- what a call has made is part of the base -/
theorem Own.prsB {B H H' : Hp} {L : List (Addr × List V)} {p : Addr} {as : List Addr} {qs : List (Int × Int)} (o : Own B L H) (hp : H p = none) (has : ∀ b ∈ as, H b = none) (e : Ex H H') (n : Nod H') (pr : Prs H' p as qs) : ∃ B', Ex B B' ∧ Own B' L H' ∧ Prs B' p as qs := by
  have hS : ∀ b ∈ p :: as, H b = none := fun b hb => by
    rcases List.mem_cons.mp hb with rfl | hb
    · exact hp
    · exact has b hb
  exact ⟨keepS B H' (p :: as), keepS_ex fun b hb => ex_none o.ex (hS b hb), o.keepB e n (p :: as) hS, pr.keep List.mem_cons_self fun b hb => List.mem_cons_of_mem _ hb⟩
theorem Prs.ne {H : Hp} {p : Addr} {as : List Addr} {qs : List (Int × Int)} {a : Addr} {xs : List V} (pr : Prs H p as qs) (h : H a = some (.lst xs)) : ∀ b ∈ as, b ≠ a := fun b hb z => by
  obtain ⟨i, hi⟩ := List.mem_iff_getElem?.mp hb
  have hlt : i < qs.length := by rw [← pr.len]; exact (List.getElem?_eq_some_iff.mp hi).1
  have := pr.tup i b _ hi (List.getElem?_eq_getElem hlt)
  rw [z, h] at this
  cases this
theorem Prs.del {H : Hp} {p a : Addr} {as : List Addr} {qs : List (Int × Int)} {xs : List V} (pr : Prs H p as qs) (h : H a = some (.lst xs)) (hp : p ≠ a) : Prs (del H a) p as qs :=
  ⟨by rw [del_ne hp]; exact pr.lst, pr.len, fun i b q h1 h2 => by rw [del_ne (pr.ne h b (List.mem_of_getElem? h1))]; exact pr.tup i b q h1 h2⟩
/-- written pairs -/
def tPairs : List (Int × Int) → TA
  | [] => tNil
  | q :: r => tCons (tTup (tCons (tC (.int q.1)) (tCons (tC (.int q.2)) tNil))) (tPairs r)
theorem w_pairs {σ : L2.St} : ∀ (qs : List (Int × Int)) {B H : Hp} {L : List (Addr × List V)} {Q : List V → Hp → Prop}, Own B L H → (∀ B' as H', PrB B B' as qs → Own B' L H' → Q (as.map V.ref) H') → tPairs qs σ H Q
  | [], B, H, L, Q, o, k => k B [] H .nil o
  | q :: r, B, H, L, Q, o, k => by
    refine w_cons (w_tupW (ea_2 ev_c ev_c _ ⟨by show 2 ≤ sizeLine; decide, fun t ht => ?_⟩))
    have o2 := o.tupB (xs := pvals q) ht
    have htB := ex_none o.ex ht
    refine w_pairs r o2 fun B' as H' c o' => ?_
    refine k B' (t :: as) H' ⟨ex_trans (ex_new htB) c.ex, by simp [c.len], fun b hb => ?_, fun i b z h1 h2 => ?_⟩ o'
    · rcases List.mem_cons.mp hb with rfl | hb
      · exact htB
      · exact ex_none (ex_new htB) (c.new b hb)
    · cases i with
      | zero => cases h1; cases h2; exact c.ex _ _ upd_same
      | succ i => exact c.tup i b z (by simpa using h1) (by simpa using h2)
theorem w_pairsL {K : PySem.W.Frag} {σ : L2.St} {B H : Hp} {L : List (Addr × List V)} {Q : VK} (qs : List (Int × Int)) (hz : qs.length ≤ 1000) (o : Own B L H) (k : ∀ B' as p H', Ex B B' → Own B' ((p, as.map V.ref) :: L) H' → Prs H' p as qs → Q (.ref p) H') : tLst (tPairs qs) σ H Q :=
  w_lst (w_pairs qs o fun B' as H' c o' => ⟨by rw [List.length_map, c.len]; exact Nat.le_trans hz (by decide), fun p hp => by
    have o2 := o'.new (xs := as.map V.ref) hp
    exact k B' as p _ c.ex o2 (c.prs o2.ex (o2.atI 0 rfl))⟩)
/-- [te for x in range(lo, hi) if t], anything may be made on the way -/
theorem w_lcR2 {σ : L2.St} {H : Hp} {ta : TA} {t : TT} {te : TE} {n : Nat} {lo k : Int} {vs : List Nat} {Q : VK} (h : EvA ta σ H [.int lo, .int k]) (hk : -(2 ^ 60) < lo ∧ lo < 2 ^ 60 ∧ -(2 ^ 60) < k ∧ k < 2 ^ 60) (Pv : Addr → Nat → Hp → Prop) (h0 : ∀ D, H D = none → Pv D 0 (upd H D (.lst [])))
    (hw : ∀ x, wipe ((wipe σ vs).set n (some x)) vs = wipe σ vs) (hs : ∀ D (i : Nat) H', H D = none → i < (k - lo).toNat → Pv D i H' → t ((wipe σ vs).set n (some (.int (lo + (i : Int))))) H' fun b H3 => if b = true then te ((wipe σ vs).set n (some (.int (lo + (i : Int))))) H3 fun y H4 => ∃ acc, H4 D = some (.lst acc) ∧ acc.length < sizeLine ∧ Pv D (i + 1) (upd H4 D (.lst (acc ++ [y]))) else Pv D (i + 1) H3)
    (hd : ∀ D H', H D = none → Pv D (k - lo).toNat H' → Q (.ref D) H') : tLc (iRng2 ta) (gName n) t te vs σ H Q := h _ ⟨lo, k, rfl, by omega, fun D hD =>
  lc_range (lo := lo) (n := (k - lo).toNat) (Pv D) (h0 D hD) (fun i H' hi hv => ⟨hw _, hs D i H' hD hi hv⟩) (fun H' hv => hd D H' hD hv)⟩
theorem w_viaV {T : VK → Prop} {R : VK} (I : V → Hp → Prop) (h : ∀ R' : VK, (∀ v H5, I v H5 → R' v H5) → T R') (k : ∀ v H5, I v H5 → R v H5) : T R := h R k
theorem for_cellsP {K : PySem.W.Frag} {σ : L2.St} {H : Hp} {D : Ends} {tu s2 : TS} {ta : TA} {n1 n2 : Nat} {a ph : Addr} {u0 : HO} {ns : List Int} {m : Nat} [nd : Nod H] (h : EvA ta σ H [.ref a, .int (m : Int)]) (ha : SqL K H a (ns.map V.int)) (hl : ns.length ≤ 63) (hph : H ph = some u0) (I : Nat → L2.St → Hp → Prop) (h0 : ∀ H1, Ex H H1 → Nod H1 → I 0 σ H1)
    (hs : ∀ (C : Hp → Prop), (∀ H2 H3, C H2 → Ex (del H2 ph) H3 → C H3) → ∀ (i : Nat) (c : Int) σ' H', i < 63 → I i σ' H' → C H' → Nod H' → tu { D with nx := fun σ2 H2 => I (i + 1) σ2 H2 ∧ C H2 ∧ Nod H2, ct := fun σ2 H2 => I (i + 1) σ2 H2 ∧ C H2 ∧ Nod H2, bk := s2 D } ((σ'.set n1 (some (.int (i : Int)))).set n2 (some (.int c))) H')
    (hd : ∀ i σ' H', I i σ' H' → Nod H' → s2 D σ' H') : tSeq (tFor (iList K (tCall (sp_law_cells K) [] E0 ta)) (gTup K 2 (gCons (gName n1) (gCons (gName n2) gNil))) tu) s2 D σ H := by
  refine q_seq (w_forL (w_call h ⟨nd, a, ns, m, rfl, ha, hl, fun l as cs H1 hc e1 n1' C hnew => ⟨l, rfl, ⟨_, sq_at C.lst⟩, ?_⟩⟩))
  have keep : ∀ H2 H3, Cells H2 l as cs → Ex (del H2 ph) H3 → Cells H3 l as cs := fun H2 H3 c e => ⟨e _ _ (by rw [del_ne (hnew ph u0 hph).1]; exact c.lst), c.len, fun i b x h1 h2 => e _ _ (by
    have hb : b ≠ ph := fun z => (hnew ph u0 hph).2 (by rw [← z]; exact List.mem_of_getElem? h1)
    rw [del_ne hb]; exact c.tup i b x h1 h2)⟩
  refine lp_list (xs := as.map V.ref) (fun i σ' H' => I i σ' H' ∧ Cells H' l as cs ∧ Nod H') ⟨h0 H1 e1 n1', C, n1'⟩ (fun i σ' H' _ hv => sq_at hv.2.1.lst) (fun i x σ' H' hi hv => ?_) (fun σ' H' hv => hd _ σ' H' hv.1 hv.2.2)
  rw [List.getElem?_map] at hi
  cases e : as[i]? with
  | none => rw [e] at hi; cases hi
  | some b =>
    rw [e] at hi
    cases hi
    have hlt : i < cs.length := by rw [← C.len]; exact (List.getElem?_eq_some_iff.mp e).1
    have hx := List.getElem?_eq_getElem hlt
    refine ⟨b, _, rfl, st_at (hv.2.1.tup i b _ e hx), rfl, _, _, rfl, _, _, rfl, rfl, ?_⟩
    exact hs (fun H => Cells H l as cs) keep i cs[i] σ' H' (by omega) hv.1 hv.2.1 hv.2.2
end Px
set_option Elab.async false
set_option linter.all false
set_option maxRecDepth 100000
set_option maxHeartbeats 4000000
/-! parts as texts: pure -/
namespace TX
open PySem TL
abbrev C : Str := Str.ofString "^"
abbrev B : Str := Str.ofString " "
abbrev sI (i : Int) : Str := Str.ofString (toString i)
theorem tlC : tl C = [94] := by decide +kernel
theorem tlB : tl B = [32] := by decide +kernel
/-- a number of at most so many figures, as written -/
def num? (most : Nat) (w : Str) : Option Nat :=
  if 1 ≤ w.length ∧ w.length ≤ most ∧ (tl w).head? ≠ some 48 ∧ ∀ c ∈ tl w, 48 ≤ c ∧ c ≤ 57 then some (NumText.digitsVal (tl w)) else none
def part? (w : Str) : Option (Int × Int) := match Txt.split w C with
  | [a, b] => match num? 9 a, num? 2 b with
    | some n, some m => if 2 ≤ n then some ((n : Int), (m : Int)) else none
    | _, _ => none
  | _ => none
def word (q : Int × Int) : Str := sI q.1 ++ C ++ sI q.2
def shw (qs : List (Int × Int)) : Str := if qs = [] then Str.ofString "1" else Txt.join B (qs.map word)
/-- the numbers rise -/
def Rise (qs : List (Int × Int)) : Prop := qs.Pairwise (fun x y => x.1 < y.1)
structure Rds (x : Str) (qs : List (Int × Int)) : Prop where
  or : (x = Str.ofString "1" ∧ qs = []) ∨ (x ≠ Str.ofString "1" ∧ (Txt.split x B).map part? = qs.map some)
  ris : Rise qs
def OkQ (q : Int × Int) : Prop := 2 ≤ q.1 ∧ q.1 < 10 ^ 9 ∧ 1 ≤ q.2 ∧ q.2 < 100
/-! ### numbers -/
theorem dv_rev : ∀ r : List Nat, NumText.AllDigits r.reverse → r ≠ [] → r.reverse.head? ≠ some 48 → numL (NumText.digitsVal r.reverse) = r.reverse
  | [], _, h, _ => absurd rfl h
  | [c], hd, _, h => by
    have hc := hd c (by simp)
    show numL (NumText.digitsVal [c]) = [c]
    have e : NumText.digitsVal [c] = c - 48 := by simp [NumText.digitsVal]
    rw [e, numL_lt (by omega)]
    congr 1
    omega
  | c :: d :: r, hd, _, h => by
    have hc := hd c (by simp)
    have hd2 : NumText.AllDigits (d :: r).reverse := fun x hx => hd x (by rw [List.reverse_cons (a := c)]; exact List.mem_append_left _ hx)
    have hne : (d :: r).reverse ≠ [] := by simp
    have hh : (d :: r).reverse.head? ≠ some 48 := by
      rw [List.reverse_cons (a := c), List.head?_append] at h
      cases e : (d :: r).reverse.head? with
      | none => simp
      | some z => rw [e] at h; simpa using h
    have ih := dv_rev (d :: r) hd2 (by simp) hh
    rw [List.reverse_cons (a := c), NumText.digitsVal_snoc]
    generalize (d :: r).reverse = u at ih hne hh
    have h1 : 1 ≤ NumText.digitsVal u := by
      rcases Nat.eq_zero_or_pos (NumText.digitsVal u) with z | z
      · rw [z, numL_lt (by omega)] at ih
        rw [← ih] at hh
        exact absurd rfl hh
      · exact z
    rw [numL_step (by omega)]
    congr 1
    · rw [show (NumText.digitsVal u * 10 + (c - 48)) / 10 = NumText.digitsVal u by omega]; exact ih
    · congr 1
      omega
theorem dv_back {w : List Nat} (h : NumText.AllDigits w) (hne : w ≠ []) (hh : w.head? ≠ some 48) : numL (NumText.digitsVal w) = w := by
  have := dv_rev w.reverse (by rw [List.reverse_reverse]; exact h) (by simpa using hne) (by rw [List.reverse_reverse]; exact hh)
  rwa [List.reverse_reverse] at this
theorem dv_lt : ∀ r : List Nat, NumText.AllDigits r.reverse → NumText.digitsVal r.reverse < 10 ^ r.length
  | [], _ => by decide
  | c :: r, hd => by
    have hc := hd c (by simp)
    have ih := dv_lt r fun x hx => hd x (by rw [List.reverse_cons (a := c)]; exact List.mem_append_left _ hx)
    rw [List.reverse_cons (a := c), NumText.digitsVal_snoc, List.length_cons, Nat.pow_succ]
    omega
theorem num_some {most : Nat} {w : Str} {n : Nat} (h : num? most w = some n) : w = sI n ∧ 1 ≤ n ∧ n < 10 ^ most ∧ 1 ≤ w.length ∧ w.length ≤ most := by
  unfold num? at h
  split at h
  · rename_i c
    obtain ⟨h1, h2, h3, h4⟩ := c
    have hne : tl w ≠ [] := fun z => by rw [len_tl, z] at h1; simp at h1
    have e := dv_back h4 hne h3
    have en : NumText.digitsVal (tl w) = n := Option.some.inj h
    have hlt := dv_lt (tl w).reverse (by rw [List.reverse_reverse]; exact h4)
    rw [List.reverse_reverse, List.length_reverse, ← len_tl, en] at hlt
    rw [en] at e
    refine ⟨ext_tl (by rw [tl_num, e]), ?_, Nat.lt_of_lt_of_le hlt (Nat.pow_le_pow_right (by decide) h2), h1, h2⟩
    rcases Nat.eq_zero_or_pos n with z | z
    · rw [z, numL_lt (by omega)] at e
      rw [← e] at h3
      exact absurd rfl h3
    · exact z
  · cases h
theorem numL_head {n : Nat} : 1 ≤ n → (numL n).head? ≠ some 48 := by
  induction n using Nat.strongRecOn with
  | _ n ih =>
    intro h
    by_cases hn : n < 10
    · rw [numL_lt hn]
      simp
      omega
    · rw [numL_step (by omega), List.head?_append]
      have := ih (n / 10) (by omega) (by omega)
      cases e : (numL (n / 10)).head? with
      | none => exact absurd (List.head?_eq_none_iff.mp e) (numL_ne _)
      | some z => rw [e] at this; simpa using this
theorem num_of {most n : Nat} (h1 : 1 ≤ n) (hm : 0 < most) (h : n < 10 ^ most) : num? most (sI n) = some n := by
  have e : tl (sI n) = numL n := tl_num n
  have hl := numL_len hm h
  have h0 := List.length_pos_iff.mpr (numL_ne n)
  unfold num?
  rw [if_pos ⟨by rw [len_tl, e]; exact h0, by rw [len_tl, e]; exact hl, by rw [e]; exact numL_head h1, by rw [e]; exact numL_digits n⟩, e, numL_val]
/-! ### split and join are each other's way back -/
theorem spl_ne (S : List Nat) : ∀ (l : List Nat) (k : Nat) (acc : List Nat), spl S k acc l ≠ []
  | [], k, acc => by rw [spl_nil]; simp
  | c :: r, 0, acc => by
    show (if pre S (c :: r) = true then acc :: spl S (S.length - 1) [] r else spl S 0 (acc ++ [c]) r) ≠ []
    split
    · simp
    · exact spl_ne S r 0 _
  | c :: r, k + 1, acc => spl_ne S r k acc
theorem join_spl (s : Nat) : ∀ (l acc : List Nat), joinL [s] (spl [s] 0 acc l) = acc ++ l
  | [], acc => by rw [spl_nil]; simp [joinL]
  | c :: r, acc => by
    cases hp : pre [s] (c :: r) with
    | true =>
      have e : c = s := by
        have : (c :: r).take 1 = [s] := eq_of_beq hp
        simpa using this
      rw [spl_hit hp]
      have ih := join_spl s r []
      have ne := spl_ne [s] r 0 []
      show joinL [s] (acc :: spl [s] 0 [] r) = _
      cases hx : spl [s] 0 [] r with
      | nil => exact absurd hx ne
      | cons a b =>
        rw [hx] at ih
        show acc ++ ([s] ++ joinL [s] (a :: b)) = _
        rw [ih, e]
        simp
    | false => rw [spl_miss hp, join_spl s r (acc ++ [c])]; simp
theorem join_split {x y : Str} {s : Nat} (ey : tl y = [s]) (hk : y.cps.all (· < 256) = true) : Txt.join y (Txt.split x y) = x := by
  refine ext_tl ?_
  rw [join_eq, tl_join, split_spl x y (by rw [ey]; simp) (kind_ok hk), ey, join_spl, List.nil_append]
theorem split_ne {x y : Str} {s : Nat} (ey : tl y = [s]) (hk : y.cps.all (· < 256) = true) : Txt.split x y ≠ [] := fun z => by
  have := split_spl x y (by rw [ey]; simp) (kind_ok hk)
  rw [z, ey] at this
  exact spl_ne [s] (tl x) 0 [] this.symm
theorem joinL_le (S : List Nat) : ∀ (ps : List (List Nat)) (p : List Nat), p ∈ ps → p.length ≤ (joinL S ps).length
  | [], _, h => (List.not_mem_nil h).elim
  | [q], p, h => by rw [List.mem_singleton.mp h]; exact Nat.le_refl _
  | q :: r :: t, p, h => by
    show p.length ≤ (q ++ (S ++ joinL S (r :: t))).length
    rw [List.length_append, List.length_append]
    rcases List.mem_cons.mp h with rfl | h
    · omega
    · have := joinL_le S (r :: t) p h
      omega
theorem split_le {x y : Str} {s : Nat} (ey : tl y = [s]) (hk : y.cps.all (· < 256) = true) {p : Str} (hp : p ∈ Txt.split x y) : p.length ≤ x.length := by
  have e := congrArg tl (join_split (x := x) ey hk)
  rw [join_eq, tl_join] at e
  have := joinL_le (tl y) ((Txt.split x y).map tl) (tl p) (List.mem_map_of_mem hp)
  rw [e] at this
  rw [len_tl, len_tl]
  exact this
theorem kC : C.cps.all (· < 256) = true := by decide +kernel
theorem kB : B.cps.all (· < 256) = true := by decide +kernel
theorem join2 (a b : Str) : Txt.join C [a, b] = a ++ C ++ b := by rw [join_eq]; rfl
/-! ### parts -/
theorem sI_free {n : Nat} {s : Nat} (h : s < 48 ∨ 57 < s) : s ∉ tl (sI n) := by rw [show tl (sI n) = numL n from tl_num n]; exact numL_free h
theorem split_word (n m : Nat) : Txt.split (word ((n : Int), (m : Int))) C = [sI n, sI m] := by
  have := split_join (parts := [sI n, sI m]) tlC kC (by simp) (fun p hp => by
    rcases List.mem_cons.mp hp with rfl | hp
    · exact sI_free (by omega)
    · rw [List.mem_singleton.mp hp]; exact sI_free (by omega))
  rw [join2] at this
  exact this
theorem OkQ.nat {q : Int × Int} (h : OkQ q) : ∃ n m : Nat, q = ((n : Int), (m : Int)) ∧ 2 ≤ n ∧ n < 10 ^ 9 ∧ 1 ≤ m ∧ m < 10 ^ 2 := by
  obtain ⟨h1, h2, h3, h4⟩ := h
  obtain ⟨n, hn⟩ := Int.eq_ofNat_of_zero_le (show 0 ≤ q.1 by omega)
  obtain ⟨m, hm⟩ := Int.eq_ofNat_of_zero_le (show 0 ≤ q.2 by omega)
  refine ⟨n, m, by rw [← hn, ← hm], ?_, ?_, ?_, ?_⟩ <;> omega
theorem part_word {q : Int × Int} (h : OkQ q) : part? (word q) = some q := by
  obtain ⟨n, m, rfl, h1, h2, h3, h4⟩ := h.nat
  unfold part?
  rw [split_word]
  show (match num? 9 (sI n), num? 2 (sI m) with
    | some n, some m => if 2 ≤ n then some ((n : Int), (m : Int)) else none
    | _, _ => none) = _
  rw [num_of (by omega) (by decide) h2, num_of h3 (by decide) h4]
  exact if_pos h1
theorem part_some {w : Str} {q : Int × Int} (h : part? w = some q) : ∃ (a b : Str) (n m : Nat), Txt.split w C = [a, b] ∧ num? 9 a = some n ∧ num? 2 b = some m ∧ 2 ≤ n ∧ q = ((n : Int), (m : Int)) := by
  unfold part? at h
  split at h
  · rename_i a b e
    split at h
    · rename_i n m e1 e2
      split at h
      · rename_i h2
        exact ⟨a, b, n, m, e, e1, e2, h2, (Option.some.inj h).symm⟩
      · cases h
    · cases h
  · cases h
theorem part_of {w a b : Str} {n m : Nat} (e : Txt.split w C = [a, b]) (e1 : num? 9 a = some n) (e2 : num? 2 b = some m) (h : 2 ≤ n) : part? w = some ((n : Int), (m : Int)) := by
  unfold part?
  rw [e]
  show (match num? 9 a, num? 2 b with
    | some n, some m => if 2 ≤ n then some ((n : Int), (m : Int)) else none
    | _, _ => none) = _
  rw [e1, e2]
  exact if_pos h
theorem part_back {w : Str} {q : Int × Int} (h : part? w = some q) : w = word q ∧ OkQ q := by
  obtain ⟨a, b, n, m, e, e1, e2, h2, rfl⟩ := part_some h
  obtain ⟨f1, f2, f3, _⟩ := num_some e1
  obtain ⟨g1, g2, g3, _⟩ := num_some e2
  refine ⟨?_, by show (2 : Int) ≤ n; omega, by show (n : Int) < 10 ^ 9; omega, by show (1 : Int) ≤ m; omega, by show (m : Int) < 100; omega⟩
  have := join_split (x := w) tlC kC
  rw [e, join2] at this
  rw [← this, f1, g1]
  rfl
theorem part_len {w : Str} (h : (Txt.split w C).length ≠ 2) : part? w = none := by
  cases e : part? w with
  | none => rfl
  | some q =>
    obtain ⟨a, b, n, m, e1, _⟩ := part_some e
    rw [e1] at h
    exact absurd rfl h
theorem ris_adj : ∀ {qs : List (Int × Int)}, (∀ i x y, qs[i]? = some x → qs[i + 1]? = some y → x.1 < y.1) → Rise qs
  | [], _ => List.Pairwise.nil
  | [a], _ => by unfold Rise; simp
  | a :: b :: r, h => by
    have ih : Rise (b :: r) := ris_adj fun i x y h1 h2 => h (i + 1) x y (by simpa using h1) (by simpa using h2)
    have hab := h 0 a b rfl rfl
    refine List.Pairwise.cons (fun c hc => ?_) ih
    rcases List.mem_cons.mp hc with rfl | hc
    · exact hab
    · have := (List.pairwise_cons.mp ih).1 c hc
      omega
theorem Rise.adj {qs : List (Int × Int)} (h : Rise qs) {i : Nat} {x y : Int × Int} (h1 : qs[i]? = some x) (h2 : qs[i + 1]? = some y) : x.1 < y.1 := by
  obtain ⟨a, ha⟩ := List.getElem?_eq_some_iff.mp h1
  obtain ⟨b, hb⟩ := List.getElem?_eq_some_iff.mp h2
  have := List.pairwise_iff_getElem.mp h i (i + 1) a b (by omega)
  rw [ha, hb] at this
  exact this
theorem sign0 {c : Nat} : ((⟨#[c]⟩ : Str) = Str.ofString "0") ↔ c = 48 := by
  have e : Str.ofString "0" = ⟨#[48]⟩ := by decide +kernel
  rw [e]
  constructor
  · intro h
    have := congrArg tl h
    simpa [tl] using this
  · rintro rfl; rfl
theorem fig {c : Nat} : c ∈ (Str.ofString "0123456789").cps.toList ↔ 48 ≤ c ∧ c ≤ 57 := by
  have e : (Str.ofString "0123456789").cps.toList = [48, 49, 50, 51, 52, 53, 54, 55, 56, 57] := by decide +kernel
  rw [e]
  simp
  omega
/-! ### whole texts -/
theorem tl_word (n m : Nat) : tl (word ((n : Int), (m : Int))) = numL n ++ [94] ++ numL m := by
  show tl (sI n ++ C ++ sI m) = _
  rw [tl_append, tl_append, tlC, show tl (sI n) = numL n from tl_num n, show tl (sI m) = numL m from tl_num m]
theorem word_free {q : Int × Int} (h : OkQ q) {s : Nat} (hs : s < 48 ∨ 57 < s ∧ s ≠ 94) : s ∉ tl (word q) := by
  obtain ⟨n, m, rfl, _⟩ := h.nat
  rw [tl_word]
  intro z
  rcases List.mem_append.mp z with z | z
  · rcases List.mem_append.mp z with z | z
    · exact numL_free (by omega) z
    · have := List.mem_singleton.mp z; omega
  · exact numL_free (by omega) z
theorem shw_ne {qs : List (Int × Int)} (h : qs ≠ []) (ok : ∀ q ∈ qs, OkQ q) : Txt.join B (qs.map word) ≠ Str.ofString "1" := fun z => by
  have e : Txt.split (Txt.join B (qs.map word)) B = Txt.split (Str.ofString "1") B := by rw [z]
  rw [split_join (parts := qs.map word) tlB kB (by simpa using h) (fun p hp => by
    obtain ⟨q, hq, rfl⟩ := List.mem_map.mp hp
    exact word_free (ok q hq) (by omega))] at e
  have e1 : Txt.split (Str.ofString "1") B = [Str.ofString "1"] := by decide +kernel
  rw [e1] at e
  cases qs with
  | nil => exact h rfl
  | cons q r =>
    have e2 : word q = Str.ofString "1" := by
      have := congrArg (fun l => l.head?) e
      simpa using this
    have : (94 : Nat) ∈ tl (word q) := by
      obtain ⟨n, m, rfl, _⟩ := (ok q (by simp)).nat
      rw [tl_word]; simp
    rw [e2] at this
    revert this
    decide +kernel
theorem reads_shw {qs : List (Int × Int)} (ok : ∀ q ∈ qs, OkQ q) (r : Rise qs) : Rds (shw qs) qs := by
  refine ⟨?_, r⟩
  unfold shw
  by_cases h : qs = []
  · rw [if_pos h]; exact .inl ⟨rfl, h⟩
  · rw [if_neg h]
    refine .inr ⟨shw_ne h ok, ?_⟩
    rw [split_join (parts := qs.map word) tlB kB (by simpa using h) (fun p hp => by
      obtain ⟨q, hq, rfl⟩ := List.mem_map.mp hp
      exact word_free (ok q hq) (by omega)), List.map_map]
    exact List.map_congr_left fun q hq => part_word (ok q hq)
theorem map_word : ∀ {ws : List Str} {qs : List (Int × Int)}, ws.map part? = qs.map some → ws = qs.map word ∧ ∀ q ∈ qs, OkQ q
  | [], [], _ => ⟨rfl, fun q h => (List.not_mem_nil h).elim⟩
  | [], _ :: _, h => by simp at h
  | _ :: _, [], h => by simp at h
  | w :: ws, q :: qs, h => by
    rw [List.map_cons, List.map_cons] at h
    injection h with h1 h2
    obtain ⟨a, b⟩ := map_word h2
    obtain ⟨c, d⟩ := part_back h1
    refine ⟨by rw [List.map_cons, ← a, ← c], fun z hz => ?_⟩
    rcases List.mem_cons.mp hz with rfl | hz
    · exact d
    · exact b z hz
theorem Rds.ok {x : Str} {qs : List (Int × Int)} (h : Rds x qs) : ∀ q ∈ qs, OkQ q := by
  rcases h.or with ⟨_, rfl⟩ | ⟨_, e⟩
  · exact fun q h => (List.not_mem_nil h).elim
  · exact (map_word e).2
theorem Rds.shw {x : Str} {qs : List (Int × Int)} (h : Rds x qs) : TX.shw qs = x := by
  rcases h.or with ⟨rfl, rfl⟩ | ⟨_, e⟩
  · rfl
  · obtain ⟨e1, _⟩ := map_word e
    have ne := split_ne (x := x) tlB kB
    have hq : qs ≠ [] := fun z => by rw [z] at e1; exact ne e1
    unfold TX.shw
    rw [if_neg hq, ← e1, join_split tlB kB]
theorem Rds.uniq {x : Str} {qs rs : List (Int × Int)} (h : Rds x qs) (g : Rds x rs) : qs = rs := by
  rcases h.or with ⟨e1, rfl⟩ | ⟨n1, e1⟩ <;> rcases g.or with ⟨e2, rfl⟩ | ⟨n2, e2⟩
  · rfl
  · exact absurd e1 n2
  · exact absurd e2 n1
  · rw [e1] at e2
    have : ∀ {a b : List (Int × Int)}, a.map some = b.map some → a = b := fun {a b} h => by
      have := congrArg (fun l => l.filterMap id) h
      simpa [List.filterMap_map] using this
    exact this e2
end TX
set_option Elab.async false
set_option linter.all false
set_option maxRecDepth 100000
set_option maxHeartbeats 4000000
namespace Px
open PySem PySem.Spec PyProof.Rows L2
/-! ### defs that are called where no list or tuple is being shown (repr asks for it) -/
def Calm (A : Around) : Prop := A.guards = some []
structure FnG (P : Program) (w : World) (K : PySem.W.Frag) (mg : Str → Option Value) (base : Heap) (k : Nat) (f : Addr) (fd : FuncData) (ps : List Str) (sp : Sp) : Prop where
  len : ∀ vs H Q E, sp vs H Q E → vs.length = ps.length
  go : ∀ {A : Around} {outer : List Env} {s : Shared} {H : Hp} {args : Args} {us : List Value} {vs : List V} {Q : VK} {E : XK}, Room k A → Calm A → Env0 P w K mg base A outer s H → BindsTo s fd args (ps.zip us) → Vals vs us → sp vs H Q E → codeAny (model P w) A (.call (.ref f) args) (CR CX0 outer P w H s Q E) s
theorem FnG.of {P : Program} {w : World} {K : PySem.W.Frag} {mg : Str → Option Value} {base : Heap} {k : Nat} {f : Addr} {fd : FuncData} {ps : List Str} {sp : Sp} (F : FnOk P w K mg base CX0 k f fd ps sp) : FnG P w K mg base k f fd ps sp :=
  ⟨F.len, fun r _ e b v h => F.run _ _ _ _ _ _ _ _ _ r e b v h⟩
/-- by its body -/
theorem gn_of {P : Program} {w : World} {K : PySem.W.Frag} {mg : Str → Option Value} {base : Heap} {k : Nat} {f : Addr} {x q : Str} {ar : Arguments} {bd : List Stmt} {sc : Scope} {dv : List V} {kw : List (Str × V)} {fd : FuncData} {N ps : List Str} {sp : Sp}
    (F : FunD K x q ar bd sc dv kw f fd) (S : FnScope N ps sc) (len : ∀ vs H Q E, sp vs H Q E → vs.length = ps.length)
    (walk : ∀ (cd : Value) (A : Around) (outer : List Env) (s : Shared) (H : Hp) (vs : List V) (Q : VK) (E : XK), Room k (A.deeper (envOfC q sc s.heap.objs.size f cd)) → Calm (A.deeper (envOfC q sc s.heap.objs.size f cd)) → sp vs H Q E →
      ∃ t, PSs (cxOf CX0 P w K mg base N q sc f cd A outer s H E) bd t ∧ t { nx := fun _ H' => Q .non H', rt := Q } (start N vs) H) : FnG P w K mg base (k + 1) f fd ps sp := by
  obtain ⟨c1, c2, d1, d2, dc, pm, an, cd, ct, sl, rfl, at_, cdIn, _, _⟩ := F.ex
  refine ⟨len, ?_⟩
  intro A outer s H args us vs Q E room calm env bind vals prom
  have inK : K.In s.heap := env.mod.kin.keeps fun b o z => (env.bs b o z).1
  have free : s.heap.NoLimit := env.mod.nolimit.keeps fun b o z => (env.bs b o z).1
  refine codeAny_call_function room.depth (inK _ _ at_) rfl S.co S.gen rfl (PySem.W.codeRec_of inK cdIn) (bind _ _ _ _ ?_)
  refine wpAny_newFunctionEnv_cells S.kind ?_ ?_
  · rintro ⟨n, v⟩ hm
    rcases S.par n (List.of_mem_zip hm).1 with z | z
    · exact Or.inl z
    · exact Or.inr ⟨z, PySem.W.cellsFrom_some _ _ _ (Or.inl z)⟩
  intro ev hev s1 st
  subst hev
  refine ⟨free.keeps st.toInCall.keep, codeAny_func ?_⟩
  obtain ⟨t, der, run⟩ := walk cd A outer s H vs Q E (room.deeper _) calm prom
  refine wpAny_mono (der.run [] s1 (start N vs) H _ (inv_start S room.hd env (len _ _ _ _ prom) vals st) run) ?_ fun _ _ z => z
  intro fl s' z
  cases fl with
  | ret u => obtain ⟨v, _, H', J, r, y⟩ := z; exact ⟨v, H', J.os, J.bare, J.base, J.hok, r, y⟩
  | next => obtain ⟨_, H', J, y⟩ := z; exact ⟨V.non, H', J.os, J.bare, J.base, J.hok, rfl, y⟩
  | brk => exact (show False from z.choose_spec.choose_spec.2).elim
  | cont => exact (show False from z.choose_spec.choose_spec.2).elim
/-- a def of the text, by its name -/
structure Gn1 (P : Program) (w : World) (K : PySem.W.Frag) (mg : Str → Option Value) (base : Heap) (x : Str) (k : Nat) (ps : List Str) (sp : Sp) : Prop where
  ex : ∃ (f : Addr) (fd : FuncData), FnG P w K mg base k f fd ps sp ∧ mg x = some (.ref f) ∧ PySem.W.keepIn K (.ref f) = true ∧ Binds K fd ps []
theorem pe_gn {X : Cx} {k : Nat} {ps : List Str} {sp : Sp} {x : Str} {p pos : Pos} {e : Expr} {es : List Expr} {t : TA} (F : Gn1 X.prog X.w X.K X.mg X.base x k ps sp) (hr : Room k X.A) (hc : Calm X.A) (ha : PA X (e :: es) t) (hg : Gl X x := by rfl)
    (hdb : (x == ("__debug__" : Str)) = false := by decide) (he : starEach (e :: es) X.env = (false, eval e X.env) :: starEach es X.env := by rfl) (hpl : (backTo pos (starEach es X.env)).any (·.1) = false := by rfl) :
    PE X (.Call (.Name x p) (e :: es) [] pos) (tCall sp [] E0 t) := by
  obtain ⟨f, fd, F1, g, kp, b⟩ := F.ex
  constructor
  intro pins s σ H Q I h
  refine wpAny_Call_Name_kw (ld_glob I hg g ?_ hdb)
  refine PySem.W.callWith_K (h₀ := X.base) I.ok.mod.kin kp (thn (ha.run pos pins s σ H _ I h) fun us s1 z => ?_) he hpl
  obtain ⟨vs, H1, I1, r, q⟩ := z
  have r2 : Vals (vs ++ []) (us ++ []) := r.append .nil
  refine ⟨I1.kIn, wpAny_call (codeAny_mono (F1.go hr hc I1.env0 (b s1 us I1.kIn (r2.length.symm.trans (F1.len _ _ _ _ q))) r2 q) ?_)⟩
  · intro rr s' z
    match rr, z with
    | .ok (.ret u), z => exact I1.after z
/-! ### repr -/
abbrev cRepr (K : PySem.W.Frag) : List V → Hp → VK → Prop := fun xs H Q => ∃ (a : Addr) (d : PyData), xs = [.ref a] ∧ Dp K H (.ref a) d ∧ d.showable = true ∧ d.hasDict = false ∧ d.depth ≤ 50 ∧ d.shown.length ≤ sizeLine ∧ Q (.str d.shown) H
theorem call_reprD {X : Cx} {k : Nat} (hr : Room k X.A) (hc : Calm X.A) : CallR X (.builtin "repr") (cRepr X.K) := by
  intro pins s σ H xs us Q I r h
  obtain ⟨a, d, rfl, hd, h1, h2, h3, h4, q⟩ := h
  cases r with
  | cons r rr =>
    cases rr
    cases r
    obtain ⟨as, rd⟩ := Dp.reads I d _ _ hd rfl
    have := hr.un
    refine repr_of_reads' rd h1 (PyData.noDict_hsm h2) hc (by omega) (fun b o z => z) (fun h' u tk hk => ?_) h4
    exact ⟨.str d.shown, H, I.kept (h' := h') (t' := tk) hk, ⟨u, rfl⟩, q⟩
/-! ### the end -/
theorem lawG {P : Program} {w : World} {K : PySem.W.Frag} {mg mb : Str → Option Value} {k : Nat} {fa a : Addr} {fd : FuncData} {x : Str} {sp : Sp} {s1 : Shared} {vs : List Value} {ns : List Int}
    (inK : K.In s1.heap) (nsM : s1.heap.Ns mainGlobals mg) (nsB : s1.heap.Ns builtinsNs mb) (boot : ∀ x : Str, x ≠ "__name__" → mb x = bootBuiltins x) (lim : s1.heap.NoLimit) (gens : s1.gens = #[])
    (ha : s1.heap.get? a = some { cls := .type "list", data := .seq vs.toArray }) (hints : IntsAre vs ns) (small : ns.length ≤ sizeLine) (room : Room k callerA)
    (F : ∀ base : Heap, K.In base → base.Ns mainGlobals mg → FnG P w K mg base k fa fd [x] sp) (bind : ∀ (s : Shared) (u : Value), BindsTo s fd ⟨[u], []⟩ [(x, u)])
    (prom : ∀ H : Hp, Only H → SqL K H a (ns.map V.int) → sp [.ref a] H (fun v _ => v = .bl true) fun _ _ _ => False) :
    codeAny (model P w) callerA (.call (.ref fa) ⟨[.ref a], []⟩) (fun r s' => r = .ok (.ret (.bool true)) ∧ OldK s1.heap s'.heap ∧ s'.os = s1.os ∧ AllBare s'.gens) s1 := by
  have rel := vals_ints hints
  have len := hints.length
  have main : ∀ H : Hp, Only H → SqL K H a (ns.map V.int) → HOk P w H s1.heap → (∀ b, H b ≠ none → b = a ∧ K.lookup a = none) → codeAny (model P w) callerA (.call (.ref fa) ⟨[.ref a], []⟩) (fun r s' => r = .ok (.ret (.bool true)) ∧ OldK s1.heap s'.heap ∧ s'.os = s1.os ∧ AllBare s'.gens) s1 := by
    intro H only sq ok just
    have off : ∀ {b : Addr}, (b = a → K.lookup a = none → False) → H b = none := fun {b} z => by
      by_cases e : H b = none
      · exact e
      · exact (z (just b e).1 (just b e).2).elim
    have low : ∀ {b : Addr} {m : Str → Option Value}, s1.heap.Ns b m → (hidT s1.heap H).Ns b m := fun {b m} z => by
      obtain ⟨o, es, ep, e, dd, r⟩ := z
      refine ⟨o, es, ep, hidT_get e (off fun e1 _ => ?_), dd, r⟩
      subst e1
      rw [ha] at e
      cases e
      cases dd
    have inB : K.In (hidT s1.heap H) := fun b o e => hidT_get (inK b o e) (off fun e1 e2 => by
      subst e1
      rw [e] at e2
      cases e2)
    have md : Mod K mg (hidT s1.heap H) := by
      obtain ⟨mc, h1, h2⟩ := lim
      exact ⟨inB, low nsM, ⟨mb, low nsB, boot⟩, mc, low h1, h2⟩
    have env : Env0 P w K mg (hidT s1.heap H) callerA [] s1 H := {
      frames := rfl
      mod := md
      bs := fun b o e => of_hidT e
      bsz := Nat.le_of_eq (hidT_size _ _)
      funs := trivial
      frf := fun b z => absurd (show b ∈ ([] : List Addr) from z) (by simp)
      hok := ok
      bare := .of_eq gens }
    refine codeAny_mono ((F _ inB (low nsM)).go (us := [.ref a]) (vs := [.ref a]) room rfl env (bind s1 (.ref a)) (.cons rfl .nil) (prom H only sq)) ?_
    intro r s' z
    match r, z with
    | .ok (.ret u), z =>
      obtain ⟨v, H', h1, h2, un, ok', rv, hv⟩ := z
      have hv : v = .bl true := hv
      subst hv
      obtain rfl : u = Value.bool true := rv
      refine ⟨rfl, OldK.of_keep ?_, h1, h2⟩
      intro b o e
      rcases only b with n | ⟨ob, xs, n⟩
      · exact un.keep b o e n (by intro z; exact absurd (show b ∈ ([] : List Addr) from z) (by simp)) (by simp)
      · have e1 := (ok b _ n).1
        have e2 := (ok' b _ (un.frzs b ob _ n)).1
        rw [e] at e1
        cases e1
        exact e2
  by_cases hk : K.lookup a = none
  · let ob : Obj := { cls := .type "list", data := .seq vs.toArray }
    have only : ∀ b, (if b = a then some (HO.frz ob (.lst (ns.map V.int))) else none) = none ∨ ∃ o xs, (if b = a then some (HO.frz ob (.lst (ns.map V.int))) else none) = some (.frz o (.lst xs)) := fun b => by
      by_cases h : b = a
      · exact Or.inr ⟨_, _, if_pos h⟩
      · exact Or.inl (if_neg h)
    refine main (fun b => if b = a then some (.frz ob (.lst (ns.map V.int))) else none) only (Or.inl (Or.inr ⟨ob, if_pos rfl⟩)) ?_ fun b z => ?_
    · intro b u z
      by_cases h : b = a
      · subst h
        have z1 := (if_pos rfl).symm.trans z
        cases z1
        exact ⟨ha, by rw [List.length_map]; exact small, vs, _, rel, ha⟩
      · have z1 := (if_neg h).symm.trans z
        cases z1
    · by_cases h : b = a
      · exact ⟨h, hk⟩
      · exact absurd (if_neg h) z
  · cases hs : K.lookup a with
    | none => exact absurd hs hk
    | some o =>
      have e := inK a o hs
      rw [ha] at e
      cases e
      refine main (fun _ => none) (fun _ => Or.inl rfl) (Or.inr ⟨_, vs.toArray, _, hs, rfl, rfl, rfl, by rw [List.size_toArray, len]; exact small, by simpa using rel⟩) (fun b u z => ?_) fun b z => absurd rfl z
      have z' : (none : Option HO) = some u := z
      cases z'
theorem walkG {l : PySem.W.OpenLaw} {n k : Nat} {q : Program} {loose : List Str} {XP : (Str → Option Value) → Heap → Prop} {YP : World → Heap → Prop} {d : DefRec} {x : Str} (hn : l.most = some n) (hn2 : n ≤ sizeLine) (hdf : d.params.defaults = []) (room : Room k callerA)
    (F : ∀ (w : World) (mg : Str → Option Value) (fa : Addr) (h : Heap), YP w h → h.Ns mainGlobals mg → mg d.name = some (.ref fa) → ∃ (K : PySem.W.Frag) (fd : FuncData) (sp : Sp), K.In h ∧ (∀ (s : Shared) (u : Value), BindsTo s fd ⟨[u], []⟩ [(x, u)]) ∧
      (∀ (H : Hp) (a : Addr) (ns : List Int), ns.length ≤ n → Only H → SqL K H a (ns.map V.int) → sp [.ref a] H (fun v _ => v = .bl true) fun _ _ _ => False) ∧ ∀ base : Heap, K.In base → base.Ns mainGlobals mg → FnG l.prog w K mg base k fa fd [x] sp) :
    PySem.W.WalkO q loose XP YP l.row.toRowW d [] (fun f vs => PySem.call f vs) := by
  refine Att.attach_call hn hdf ?_
  intro w s0 s1 mg mb fa o pm cd doc a vs ns G Y _ _ _ hmg obj hints len gens
  obtain ⟨K, fd, sp, inK, bind, prom, hF⟩ := F w mg fa _ Y G.T.g hmg
  exact lawG inK G.T.g G.T.b G.T.builtins G.T.nolimit gens obj hints (Nat.le_trans len hn2) room hF bind fun H h1 h2 => prom H a ns len h1 h2
end Px
set_option Elab.async false
set_option linter.all false
set_option maxRecDepth 100000
set_option maxHeartbeats 4000000
/-! texts -/
namespace Px
open PySem PySem.Spec PyProof.Rows L2
def tJoined (ts : List TE) : TE := fun σ H Q => tJs ts Str.empty σ H fun out H1 => Q (.str out) H1
theorem pe_joinedT {X : Cx} {v1 v2 : Expr} {rest : List Expr} {ts : List TE} {pos : Pos} (h : PJ X (v1 :: v2 :: rest) ts) : PE X (.JoinedStr (v1 :: v2 :: rest) pos) (tJoined ts) := pe_joined h
abbrev rSplit : V → List V → Hp → VK → Prop := fun x xs H Q => ∃ a b, x = .str a ∧ xs = [.str b] ∧ (b.length == 0) = false ∧ a.length + 2 ≤ sizeLine ∧ rNewStrs (Txt.split a b) H Q
abbrev rJoin (K : PySem.W.Frag) : V → List V → Hp → VK → Prop := fun x xs H Q => ∃ a p, ∃ ys : List Str, x = .str a ∧ xs = [.ref p] ∧ (SqL K H p (ys.map V.str) ∨ SqT K H p (ys.map V.str)) ∧ (ys.map (·.length)).sum + ys.length * a.length ≤ 16777216 ∧ Q (.str (Txt.join a ys)) H
theorem pe_splitT {X : Cx} {o e : Expr} {to te : TE} {apos pos : Pos} (ho : PE X o to) (he : PE X e te) (hs : starEach [e] X.env = [(false, eval e X.env)] := by rfl) (hbase : attributeBase o "split" X.env (eval o X.env) = eval o X.env := by rfl) (hline : (apos.endLine == pos.line) = true := by rfl) :
    PE X (.Call (.Attribute o "split" apos) [e] [] pos) (tM1 rSplit to te) := pe_split ho he hs hbase hline
theorem pe_joinT {X : Cx} {o e : Expr} {to te : TE} {apos pos : Pos} (ho : PE X o to) (he : PE X e te) (hs : starEach [e] X.env = [(false, eval e X.env)] := by rfl) (hbase : attributeBase o "join" X.env (eval o X.env) = eval o X.env := by rfl) (hline : (apos.endLine == pos.line) = true := by rfl) :
    PE X (.Call (.Attribute o "join" apos) [e] [] pos) (tM1 (rJoin X.K) to te) := pe_join ho he hs hbase hline
abbrev rInS : R2 := fun x y H Q => ∃ (c : Nat) (z : Str), x = .str ⟨#[c]⟩ ∧ y = .str z ∧ Q (.bl (decide (c ∈ z.cps.toList))) H
abbrev rNotInS : R2 := fun x y H Q => ∃ (c : Nat) (z : Str), x = .str ⟨#[c]⟩ ∧ y = .str z ∧ Q (.bl (!decide (c ∈ z.cps.toList))) H
section
variable {K : PySem.W.Frag} {σ : L2.St} {H : Hp} {D : Ends} {g : TG} {tu s2 : TS} {n : Nat} {te ta tb : TE}
theorem w_forS (h : te σ H fun v H1 => ∃ x, v = .str x ∧ Lp (Its x) g tu D σ H1) : tFor (iStr te) g tu D σ H := h
theorem lp_str {x : Str} (Pv : Nat → L2.St → Hp → Prop) (h0 : Pv 0 σ H)
    (hs : ∀ i c σ' H', (TL.tl x)[i]? = some c → Pv i σ' H' → g (.str ⟨#[c]⟩) σ' H' fun σ2 H2 => tu { D with nx := Pv (i + 1), ct := Pv (i + 1), bk := D.nx } σ2 H2) (hd : ∀ σ' H', Pv (TL.tl x).length σ' H' → D.nx σ' H') : Lp (Its x) g tu D σ H :=
  for_it (walk_str (z := x)) Pv h0 (fun _ _ _ _ _ => trivial) (fun i v σ' H' H'' hi p y => by
    obtain ⟨rfl, c, hc, rfl⟩ := y
    exact hs i c σ' H'' (by show x.cps.toList[i]? = some c; rw [Array.getElem?_toList]; exact hc) p) (fun σ' H' p => hd σ' H' (by
      have e : (TL.tl x).length = x.cps.size := by simp [TL.tl]
      rw [e]; exact p))
theorem w_lcS {te2 : TE} {t : TT} {Q : VK} {vs : List Nat} (h : te σ H fun v H1 => ∃ x, v = .str x ∧ LcAt (Its x) g t te2 vs σ Q H1) : tLc (iStr te) g t te2 vs σ H Q := h
theorem lcat_str {te2 : TE} {t : TT} {Q : VK} {x : Str} {vs : List Nat} {H1 : Hp} (Pv : Addr → Nat → Hp → Prop) (h0 : ∀ D, H1 D = none → Pv D 0 (upd H1 D (.lst [])))
    (hs : ∀ D (i : Nat) c H', H1 D = none → (TL.tl x)[i]? = some c → Pv D i H' → g (.str ⟨#[c]⟩) (wipe σ vs) H' fun σ2 H2 => wipe σ2 vs = wipe σ vs ∧ t σ2 H2 fun b H3 => if b = true then te2 σ2 H3 fun y H4 => ∃ acc, H4 D = some (.lst acc) ∧ acc.length < sizeLine ∧ Pv D (i + 1) (upd H4 D (.lst (acc ++ [y]))) else Pv D (i + 1) H3)
    (hd : ∀ D H', H1 D = none → Pv D (TL.tl x).length H' → Q (.ref D) H') : LcAt (Its x) g t te2 vs σ Q H1 := fun D hD =>
  lc_it (walk_str (z := x)) (Pv D) (h0 D hD) (fun _ _ _ _ => trivial) (fun i v H' H'' hi p y => by
    obtain ⟨rfl, c, hc, rfl⟩ := y
    exact hs D i c H'' hD (by show x.cps.toList[i]? = some c; rw [Array.getElem?_toList]; exact hc) p) (fun H' p => hd D H' hD (by
      have e : (TL.tl x).length = x.cps.size := by simp [TL.tl]
      rw [e]; exact p))
theorem w_split {a b : Str} {Q : VK} (ha : Ev ta σ H (.str a)) (hb : Ev tb σ H (.str b)) (h0 : (b.length == 0) = false) (hz : a.length + 2 ≤ sizeLine) (k : ∀ p, H p = none → Q (.ref p) (upd H p (.lst ((Txt.split a b).map V.str)))) : tM1 rSplit ta tb σ H Q :=
  ha _ ⟨⟨_, rfl⟩, hb _ ⟨a, b, rfl, rfl, h0, hz, k⟩⟩
theorem w_join {a : Str} {Q : VK} (ha : Ev ta σ H (.str a)) (hb : tb σ H fun y H1 => rJoin K (.str a) [y] H1 Q) : tM1 (rJoin K) ta tb σ H Q := ha _ ⟨⟨_, rfl⟩, hb⟩
theorem r_join {a : Str} {Q : VK} {p : Addr} {ys : List Str} (h : SqL K H p (ys.map V.str)) (hz : (ys.map (·.length)).sum + ys.length * a.length ≤ 16777216) (q : Q (.str (Txt.join a ys)) H) : rJoin K (.str a) [.ref p] H Q := ⟨a, p, ys, rfl, rfl, .inl h, hz, q⟩
end
end Px
set_option Elab.async false
set_option linter.all false
set_option maxRecDepth 100000
set_option maxHeartbeats 4000000
namespace Px
open PySem L2 MA TX TL
local macro_rules | `(tactic| bv_omega) => `(tactic| first | assumption | omega | exact cm (by omega) | exact cd (by omega) | exact cp (by omega) | exact trivial)
local macro_rules | `(tactic| array_get_dec) => `(tactic| first
  | assumption
  | exact sq_up
  | exact Own.sqi (by assumption) 0 (by rfl)
  | exact Own.sqi (by assumption) 1 (by rfl)
  | exact Own.sqi (by assumption) 2 (by rfl)
  | exact Own.sqi (by assumption) 3 (by rfl)
  | exact Own.sqi (by assumption) 4 (by rfl)
  | exact Own.sq (by assumption) (by assumption)
  | exact sq_new (by assumption) (by assumption))
local macro_rules | `(tactic| clean_wf) => `(tactic| first
  | with_reducible exact ev_c
  | (with_reducible apply ev_v') <;> rfl
  | (with_reducible apply ev_add) <;> clean_wf
  | (with_reducible apply ev_sub) <;> clean_wf
  | (with_reducible apply ev_mul) <;> clean_wf
  | (with_reducible apply ev_mod) <;> clean_wf
  | (with_reducible apply ev_div) <;> clean_wf
  | (with_reducible apply ev_pow) <;> clean_wf
  | (with_reducible apply ev_neg) <;> clean_wf
  | (with_reducible apply ev_lt) <;> clean_wf
  | (with_reducible apply ev_le) <;> clean_wf
  | (with_reducible apply ev_gt) <;> clean_wf
  | (with_reducible apply ev_ge) <;> clean_wf
  | (with_reducible apply ev_eqi) <;> clean_wf
  | (with_reducible apply ev_nei) <;> clean_wf
  | (with_reducible apply ev_len) <;> clean_wf
  | (with_reducible apply ev_ixL) <;> clean_wf
  | (with_reducible apply ev_min) <;> clean_wf
  | (with_reducible apply ev_max) <;> clean_wf
  | (with_reducible apply ev_abs) <;> clean_wf
  | (with_reducible apply ev_intB) <;> clean_wf
  | (with_reducible apply ea_1) <;> clean_wf
  | (with_reducible apply ea_2) <;> clean_wf
  | (with_reducible apply ea_3) <;> clean_wf
  | with_reducible exact ea_nil
  | (with_reducible apply ea_cons) <;> clean_wf
  | with_reducible exact el_nil
  | (with_reducible apply ep_lt) <;> clean_wf
  | (with_reducible apply ep_le) <;> clean_wf
  | (with_reducible apply ep_gt) <;> clean_wf
  | (with_reducible apply ep_ge) <;> clean_wf
  | (with_reducible apply ep_eqi) <;> clean_wf
  | (with_reducible apply ep_nei) <;> clean_wf
  | (with_reducible apply ep_not) <;> clean_wf
  | ((with_reducible apply ep_and) <;> first | (intro _; clean_wf; done) | clean_wf)
  | ((with_reducible apply ep_or) <;> first | (intro _; clean_wf; done) | clean_wf)
  | (with_reducible apply et_t) <;> clean_wf
  | (with_reducible apply eo_is) <;> clean_wf
  | with_reducible exact eo_no
  | array_get_dec
  | bv_omega
  | rfl
  | skip)
local macro_rules | `(tactic| symm_saturate) => `(tactic| first
  | ((with_reducible apply q_set); (focus (clean_wf; done)))
  | ((with_reducible apply s_set); (focus (clean_wf; done)))
  | ((with_reducible apply q_aug (hx := rfl)); (focus (clean_wf; done)))
  | ((with_reducible apply s_aug (hx := rfl)); (focus (clean_wf; done)))
  | ((with_reducible apply q_augC (hx := rfl)); (focus (clean_wf; done)))
  | ((with_reducible apply s_augC (hx := rfl)); (focus (clean_wf; done))))
local macro_rules | `(tactic| subst_eqs) => `(tactic| repeat' (first
  | with_reducible apply w_c
  | ((with_reducible apply w_v'); (focus rfl))
  | with_reducible apply w_op
  | with_reducible apply w_cb
  | with_reducible apply w_cons
  | with_reducible apply w_nil
  | with_reducible apply r_add
  | with_reducible apply r_sub
  | ((with_reducible apply r_mul); (focus (bv_omega; done)))
  | ((with_reducible apply r_div); (focus (bv_omega; done)))
  | ((with_reducible apply r_mod); (focus (bv_omega; done)))
  | ((with_reducible apply r_pow); (focus (bv_omega; done)))
  | with_reducible apply r_lt
  | with_reducible apply r_le
  | with_reducible apply r_gt
  | with_reducible apply r_ge
  | with_reducible apply r_min
  | with_reducible apply r_max
  | with_reducible apply r_intB
  | ((with_reducible apply r_len); (focus (array_get_dec; done)))
  | with_reducible apply w_callW
  | with_reducible apply q_setW
  | with_reducible apply s_setW
  | with_reducible apply s_retW))

section
variable {K : PySem.W.Frag} {σ : L2.St} {H : Hp} {ta tb te : TE}
theorem dec_strD {a b : Str} : decide (V.str a = V.str b) = decide (a = b) := by
  by_cases h : a = b <;> simp [h]
theorem ev_eqS {a b : Str} (ha : Ev ta σ H (.str a)) (hb : Ev tb σ H (.str b)) : Ev (tOp rEq ta tb) σ H (.bl (decide (a = b))) := fun Q q => ev_eqs ha hb rfl Q (by rw [dec_strD]; exact q)
theorem ev_neS {a b : Str} (ha : Ev ta σ H (.str a)) (hb : Ev tb σ H (.str b)) : Ev (tOp rNe ta tb) σ H (.bl (!decide (a = b))) := fun Q q => ev_nes ha hb rfl Q (by rw [dec_strD]; exact q)
theorem ev_ixS {w : Str} {i : Int} {c : Nat} (ha : Ev ta σ H (.str w)) (hb : Ev tb σ H (.int i)) (hz : w.length ≤ sizeLine) (e : atI (tl w) i = some c) : Ev (tOp rIxS ta tb) σ H (.str ⟨#[c]⟩) := ev_op ha hb fun _ q => ⟨w, i, c, rfl, rfl, hz, e, q⟩
theorem ev_notInS {c : Nat} {z : Str} (ha : Ev ta σ H (.str ⟨#[c]⟩)) (hb : Ev tb σ H (.str z)) : Ev (tOp rNotInS ta tb) σ H (.bl (!decide (c ∈ z.cps.toList))) := ev_op ha hb fun _ q => ⟨c, z, rfl, rfl, q⟩
theorem ev_inS {c : Nat} {z : Str} (ha : Ev ta σ H (.str ⟨#[c]⟩)) (hb : Ev tb σ H (.str z)) : Ev (tOp rInS ta tb) σ H (.bl (decide (c ∈ z.cps.toList))) := ev_op ha hb fun _ q => ⟨c, z, rfl, rfl, q⟩
end
theorem szc {n : Nat} (h : n ≤ 16000000) : n ≤ sizeLine := Nat.le_trans h (by decide)
/-! ### a number -/
def sp_read_number (K : PySem.W.Frag) : Sp := fun vs H Q E => Nod H ∧ ∃ (w : Str) (m : Nat), vs = [.str w, .int (m : Int)] ∧ w.length ≤ 100000 ∧ m ≤ 600 ∧ (∀ n : Nat, num? m w = some n → Q (.int (n : Int)) H) ∧ (num? m w = none → E (.ref (He.ga K "NoText")) none H)
/-- slots: word most figure -/
abbrev n_read_number : List Str := ["word", "most", "figure"]
def t_read_number (K : PySem.W.Frag) (E : XK) : TS := (sFg (tSeq (tIfS (tOr (tNot (tTest (tChain oLe oLe (tC (.int 1)) (tCB cLenS (tCons (tVar 0) tNil)) (tVar 1)))) (tTest (tOp rEq (tOp rIxS (tVar 0) (tC (.int 0))) (tC (.str (PySem.Str.ofString "0")))))) (tRaise (He.ga K "NoText") (fun cls d _ H => E cls d H)) tNext)
  (tSeq (tFor (iStr (tVar 0)) (gName 2) (tIfS (tTest (tOp rNotInS (tVar 2) (tC (.str (PySem.Str.ofString "0123456789"))))) (tRaise (He.ga K "NoText") (fun cls d _ H => E cls d H)) tNext))
  (tRet (tCB cIntS (tCons (tVar 0) tNil))))))
theorem r_read_number {K : PySem.W.Frag} {vs : List V} {H : Hp} {Q : VK} {E : XK} (h : sp_read_number K vs H Q E) : t_read_number K E { nx := fun _ H' => Q .non H', rt := Q } (start n_read_number vs) H := by
  obtain ⟨nd, w, m, rfl, hw, hm, q, r⟩ := h
  have c1 : EvT (tTest (tChain oLe oLe (tC (.int 1)) (tCB cLenS (tCons (tVar 0) tNil)) (tVar 1))) (start n_read_number [.str w, .int (m : Int)]) H (decide ((1 : Int) ≤ w.length) && decide ((w.length : Int) ≤ m)) := et_t (ev_chain ev_c (ev_lenS (ev_v 0) (szc (by omega))) rv_0 (fun _ => ev_v 1) fun _ => rv_0)
  by_cases h1 : 1 ≤ w.length ∧ w.length ≤ m
  rotate_left
  · refine fg_body (q_when (b := true) (et_eq (et_or (a := true) (b := true) (et_eq (et_not c1) ?_) (fun z => nomatch z)) rfl) (fun _ => r (if_neg fun z => h1 ⟨z.1, z.2.1⟩)) fun z => nomatch z)
    by_cases g1 : (1 : Int) ≤ w.length
    · have g2 : ¬ (w.length : Int) ≤ m := fun z => h1 ⟨by omega, by omega⟩
      rw [decide_eq_true g1, decide_eq_false g2]; rfl
    · rw [decide_eq_false g1]; rfl
  obtain ⟨c, rest, hc⟩ : ∃ c rest, tl w = c :: rest := by
    cases e : tl w with
    | nil => have := h1.1; rw [len_tl, e] at this; simp at this
    | cons c r => exact ⟨c, r, rfl⟩
  have c2 : EvT (tOr (tNot (tTest (tChain oLe oLe (tC (.int 1)) (tCB cLenS (tCons (tVar 0) tNil)) (tVar 1)))) (tTest (tOp rEq (tOp rIxS (tVar 0) (tC (.int 0))) (tC (.str (PySem.Str.ofString "0")))))) (start n_read_number [.str w, .int (m : Int)]) H (decide (c = 48)) :=
    et_eq (et_or (a := false) (b := decide (c = 48)) (et_eq (et_not c1) (by rw [decide_eq_true (by omega), decide_eq_true (by omega)]; rfl)) fun _ => et_eq (et_t (ev_eqS (ev_ixS (c := c) (ev_v 0) ev_c (szc (by omega)) (atI_nat (j := 0) (by rw [hc]; rfl))) ev_c)) (by
      by_cases z : c = 48
      · rw [decide_eq_true z, decide_eq_true (sign0.mpr z)]
      · rw [decide_eq_false z, decide_eq_false (fun y => z (sign0.mp y))])) (by simp)
  refine fg_body (q_when c2 (fun z => r (if_neg fun y => y.2.2.1 (by rw [hc]; have := of_decide_eq_true z; subst this; rfl))) fun z => ?_)
  have h48 : c ≠ 48 := of_decide_eq_false z
  refine q_seq (w_forS (w_v 0 ⟨w, rfl, lp_str (fun i σ' H' => ∃ y, σ' = [some (.str w), some (.int (m : Int)), y] ∧ H' = H ∧ ∀ c ∈ (tl w).take i, 48 ≤ c ∧ c ≤ 57) ⟨none, rfl, rfl, by simp⟩ (fun i d σ' H' hd hI => ?_) fun σ' H' hI => ?_⟩))
  · obtain ⟨y, rfl, rfl, hI⟩ := hI
    refine s_when (b := !decide (48 ≤ d ∧ d ≤ 57)) (et_t (ev_eq (ev_notInS (c := d) (ev_v 2) ev_c) (by
      congr 2
      exact decide_eq_decide.mpr fig))) (fun z => r (if_neg fun y => ?_)) fun z => ⟨_, rfl, rfl, fun e he => ?_⟩
    · have z2 : ¬ (48 ≤ d ∧ d ≤ 57) := by
        intro g
        rw [decide_eq_true g] at z
        cases z
      exact z2 (y.2.2.2 d (List.mem_of_getElem? hd))
    · have z2 : 48 ≤ d ∧ d ≤ 57 := by
        have := congrArg (!·) z
        simpa using this
      rw [List.take_add_one, hd] at he
      rcases List.mem_append.mp he with he | he
      · exact hI e he
      · simp at he; rw [he]; exact z2
  · obtain ⟨y, rfl, rfl, hI⟩ := hI
    rw [List.take_length] at hI
    have e : num? m w = some (NumText.digitsVal (tl w)) := if_pos ⟨h1.1, h1.2, by rw [hc]; simpa using h48, hI⟩
    have hne : tl w ≠ [] := by rw [hc]; simp
    exact s_ret (ev_cb (ea_1 (ev_v 0)) fun _ q => ⟨w, _, rfl, intText_digits hI hne (by omega), by omega, q⟩) ⟨_, fg_same ex_refl, q _ e⟩
/-! ### a part -/
def sp_read_part (K : PySem.W.Frag) : Sp := fun vs H Q E => Nod H ∧ ∃ (w : Str), vs = [.str w] ∧ w.length ≤ 100000 ∧ (∀ q t, part? w = some q → H t = none → Q (.ref t) (upd H t (.tup (pvals q)))) ∧ (part? w = none → ∀ H', Ex H H' → Nod H' → E (.ref (He.ga K "NoText")) none H')
/-- slots: word halves number -/
abbrev n_read_part : List Str := ["word", "halves", "number"]
def t_read_part (K : PySem.W.Frag) (E : XK) : TS := (sFg (tSeq (tAsg (tM1 rSplit (tVar 0) (tC (.str (PySem.Str.ofString "^")))) (gName 1))
  (tSeq (tIfS (tTest (tOp rNe (tCB (cLen K) (tCons (tVar 1) tNil)) (tC (.int 2)))) (tRaise (He.ga K "NoText") (fun cls d _ H => E cls d H)) tNext)
  (tSeq (tAsg (tCallS (sp_read_number K) (WE (fun cls d _ H => E cls d H)) (tCons (tOp (rIxL K) (tVar 1) (tC (.int 0))) (tCons (tC (.int 9)) tNil))) (gName 2))
  (tSeq (tIfS (tTest (tOp oLt (tVar 2) (tC (.int 2)))) (tRaise (He.ga K "NoText") (fun cls d _ H => E cls d H)) tNext)
  (tRet (tTup (tCons (tVar 2) (tCons (tCallS (sp_read_number K) (WE (fun cls d _ H => E cls d H)) (tCons (tOp (rIxL K) (tVar 1) (tC (.int 1))) (tCons (tC (.int 2)) tNil))) tNil)))))))))
theorem r_read_part {K : PySem.W.Frag} {vs : List V} {H : Hp} {Q : VK} {E : XK} (h : sp_read_part K vs H Q E) : t_read_part K E { nx := fun _ H' => Q .non H', rt := Q } (start n_read_part vs) H := by
  obtain ⟨nd, w, rfl, hw, q, r⟩ := h
  refine fg_body (q_setW (w_split (ev_v 0) ev_c (by decide +kernel) (szc (by omega)) fun p hp => ?_))
  have o : Own H [(p, (Txt.split w C).map V.str)] (upd H p (.lst ((Txt.split w C).map V.str))) := Own.nil.new hp
  have nd1 := o.nod
  refine q_whenP (ep_nei (ev_len (ev_v 1) (o.sqi 0 rfl)) ev_c) (fun hc => r (part_len fun z => hc (by rw [List.length_map, z]; rfl)) _ o.ex nd1) fun hc => ?_
  have hl : (Txt.split w C).length = 2 := by
    rw [List.length_map] at hc
    omega
  obtain ⟨a, b, hs⟩ : ∃ a b, Txt.split w C = [a, b] := by
    match e : Txt.split w C, hl with
    | [a, b], _ => exact ⟨a, b, rfl⟩
  have hla : a.length ≤ 100000 := Nat.le_trans (split_le tlC kC (x := w) (by rw [hs]; simp)) hw
  have hlb : b.length ≤ 100000 := Nat.le_trans (split_le tlC kC (x := w) (by rw [hs]; simp)) hw
  have bad : (∀ n m, num? 9 a = some n → num? 2 b = some m → 2 ≤ n → False) → part? w = none := fun z => by
    cases e : part? w with
    | none => rfl
    | some q =>
      obtain ⟨a', b', n, m, e1, e2, e3, e4, _⟩ := part_some e
      rw [hs] at e1
      injection e1 with e5 e6
      injection e6 with e6 _
      subst e5; subst e6
      exact (z n m e2 e3 e4).elim
  have hat0 : atI ((Txt.split w C).map V.str) 0 = some (.str a) := by rw [hs]; rfl
  have hat1 : atI ((Txt.split w C).map V.str) 1 = some (.str b) := by rw [hs]; rfl
  refine q_setW (ea_2 (ev_ixL (ev_v 1) ev_c (o.sqi 0 rfl) hat0) ev_c _ ⟨nd1, a, 9, rfl, hla, by omega, fun n hn => ?_, fun hn => r (bad fun n m z _ _ => by rw [hn] at z; cases z) _ o.ex nd1⟩)
  refine q_whenP (ep_lt (i := (n : Int)) (ev_v 2) ev_c) (fun hc => r (bad fun n' m z _ h2 => by rw [hn] at z; cases z; omega) _ o.ex nd1) fun hc => ?_
  refine s_retW (w_tupW (w_cons (w_v 2 (w_one (ea_2 (ev_ixL (ev_v 1) ev_c (o.sqi 0 rfl) hat1) ev_c _ ⟨nd1, b, 2, rfl, hlb, by omega, fun m hm => ⟨(by show 2 ≤ sizeLine; decide), fun t ht => ?_⟩, fun hm => r (bad fun n' m z y _ => by rw [hm] at y; cases y) _ o.ex nd1⟩)))))
  have f : fresh (.tup (pvals ((n : Int), (m : Int)))) := trivial
  exact ⟨_, fg_new f (ex_none o.ex ht) (ex_upd (ex_none o.ex ht) o.ex) upd_same, q _ t (part_of hs hn hm (by omega)) (ex_none o.ex ht)⟩
end Px
set_option Elab.async false
set_option linter.all false
set_option maxRecDepth 100000
set_option maxHeartbeats 4000000
namespace Px
open PySem L2 MA TX TL
local macro_rules | `(tactic| bv_omega) => `(tactic| first | assumption | omega | exact cm (by omega) | exact cd (by omega) | exact cp (by omega) | exact trivial)
local macro_rules | `(tactic| array_get_dec) => `(tactic| first
  | assumption
  | exact sq_up
  | exact Own.sqi (by assumption) 0 (by rfl)
  | exact Own.sqi (by assumption) 1 (by rfl)
  | exact Own.sqi (by assumption) 2 (by rfl)
  | exact Own.sqi (by assumption) 3 (by rfl)
  | exact Own.sqi (by assumption) 4 (by rfl)
  | exact Own.sq (by assumption) (by assumption)
  | exact sq_new (by assumption) (by assumption))
local macro_rules | `(tactic| clean_wf) => `(tactic| first
  | with_reducible exact ev_c
  | (with_reducible apply ev_v') <;> rfl
  | (with_reducible apply ev_add) <;> clean_wf
  | (with_reducible apply ev_sub) <;> clean_wf
  | (with_reducible apply ev_mul) <;> clean_wf
  | (with_reducible apply ev_mod) <;> clean_wf
  | (with_reducible apply ev_div) <;> clean_wf
  | (with_reducible apply ev_pow) <;> clean_wf
  | (with_reducible apply ev_neg) <;> clean_wf
  | (with_reducible apply ev_lt) <;> clean_wf
  | (with_reducible apply ev_le) <;> clean_wf
  | (with_reducible apply ev_gt) <;> clean_wf
  | (with_reducible apply ev_ge) <;> clean_wf
  | (with_reducible apply ev_eqi) <;> clean_wf
  | (with_reducible apply ev_nei) <;> clean_wf
  | (with_reducible apply ev_len) <;> clean_wf
  | (with_reducible apply ev_ixL) <;> clean_wf
  | (with_reducible apply ev_min) <;> clean_wf
  | (with_reducible apply ev_max) <;> clean_wf
  | (with_reducible apply ev_abs) <;> clean_wf
  | (with_reducible apply ev_intB) <;> clean_wf
  | (with_reducible apply ea_1) <;> clean_wf
  | (with_reducible apply ea_2) <;> clean_wf
  | (with_reducible apply ea_3) <;> clean_wf
  | with_reducible exact ea_nil
  | (with_reducible apply ea_cons) <;> clean_wf
  | with_reducible exact el_nil
  | (with_reducible apply ep_lt) <;> clean_wf
  | (with_reducible apply ep_le) <;> clean_wf
  | (with_reducible apply ep_gt) <;> clean_wf
  | (with_reducible apply ep_ge) <;> clean_wf
  | (with_reducible apply ep_eqi) <;> clean_wf
  | (with_reducible apply ep_nei) <;> clean_wf
  | (with_reducible apply ep_not) <;> clean_wf
  | ((with_reducible apply ep_and) <;> first | (intro _; clean_wf; done) | clean_wf)
  | ((with_reducible apply ep_or) <;> first | (intro _; clean_wf; done) | clean_wf)
  | (with_reducible apply et_t) <;> clean_wf
  | (with_reducible apply eo_is) <;> clean_wf
  | with_reducible exact eo_no
  | array_get_dec
  | bv_omega
  | rfl
  | skip)
local macro_rules | `(tactic| symm_saturate) => `(tactic| first
  | ((with_reducible apply q_set); (focus (clean_wf; done)))
  | ((with_reducible apply s_set); (focus (clean_wf; done)))
  | ((with_reducible apply q_aug (hx := rfl)); (focus (clean_wf; done)))
  | ((with_reducible apply s_aug (hx := rfl)); (focus (clean_wf; done)))
  | ((with_reducible apply q_augC (hx := rfl)); (focus (clean_wf; done)))
  | ((with_reducible apply s_augC (hx := rfl)); (focus (clean_wf; done))))
local macro_rules | `(tactic| subst_eqs) => `(tactic| repeat' (first
  | with_reducible apply w_c
  | ((with_reducible apply w_v'); (focus rfl))
  | with_reducible apply w_op
  | with_reducible apply w_cb
  | with_reducible apply w_cons
  | with_reducible apply w_nil
  | with_reducible apply r_add
  | with_reducible apply r_sub
  | ((with_reducible apply r_mul); (focus (bv_omega; done)))
  | ((with_reducible apply r_div); (focus (bv_omega; done)))
  | ((with_reducible apply r_mod); (focus (bv_omega; done)))
  | ((with_reducible apply r_pow); (focus (bv_omega; done)))
  | with_reducible apply r_lt
  | with_reducible apply r_le
  | with_reducible apply r_gt
  | with_reducible apply r_ge
  | with_reducible apply r_min
  | with_reducible apply r_max
  | with_reducible apply r_intB
  | ((with_reducible apply r_len); (focus (array_get_dec; done)))
  | with_reducible apply w_callW
  | with_reducible apply q_setW
  | with_reducible apply s_setW
  | with_reducible apply s_retW))

/-! ### words -/
theorem lgb {i : Int} (h : -(2 ^ 200) < i ∧ i < 2 ^ 200) : i.natAbs.log2 < 1920 := by
  by_cases z : i.natAbs = 0
  · rw [z]; decide
  · have : i.natAbs < 2 ^ 200 := by omega
    exact Nat.lt_of_lt_of_le ((Nat.log2_lt z).mpr this) (by decide)
theorem sI_le {i : Int} {k : Nat} (h0 : 0 ≤ i) (hk : 0 < k) (h : i < 10 ^ k) : (sI i).length ≤ k := PyProof.Rows.toString_length_le h0 hk h
theorem word_len {q : Int × Int} (h : OkQ q) : (sI q.1).length ≤ 9 ∧ (sI q.2).length ≤ 2 ∧ (word q).length ≤ 12 := by
  obtain ⟨h1, h2, h3, h4⟩ := h
  have e1 := sI_le (i := q.1) (k := 9) (by omega) (by decide) h2
  have e2 := sI_le (i := q.2) (k := 2) (by omega) (by decide) (by omega)
  refine ⟨e1, e2, ?_⟩
  show (sI q.1 ++ C ++ sI q.2).length ≤ 12
  rw [Str.length_append, Str.length_append, show C.length = 1 by decide +kernel]
  omega
section
variable {K : PySem.W.Frag} {σ : L2.St} {H : Hp} {ta tb te tl : TE}
theorem ev_catS {a b : Str} (ha : Ev ta σ H (.str a)) (hb : Ev tb σ H (.str b)) (h : a.length + b.length ≤ 16000000) : Ev (tOp oCatS ta tb) σ H (.str (a ++ b)) := ev_op ha hb fun _ q => ⟨a, b, rfl, rfl, szc h, q⟩
theorem ev_strI {i : Int} (ha : Ev ta σ H (.int i)) (h : -(2 ^ 200) < i ∧ i < 2 ^ 200) : Ev (tCB cStr (tCons ta tNil)) σ H (.str (sI i)) := ev_cb (ea_1 ha) fun _ q => ⟨i, rfl, lgb h, q⟩
theorem ev_wordF {q : Int × Int} {n1 n2 : Nat} (ok : OkQ q) (h1 : σ[n1]? = some (some (.int q.1))) (h2 : σ[n2]? = some (some (.int q.2))) : Ev (tJoined [(tFmt (tVar n1)), (tC (.str (PySem.Str.ofString "^"))), (tFmt (tVar n2))]) σ H (.str (word q)) := fun Q z => by
  obtain ⟨l1, l2, l3⟩ := word_len ok
  obtain ⟨o1, o2, o3, o4⟩ := ok
  have e0 : Str.empty ++ sI q.1 = sI q.1 := ext_tl (by rw [tl_append]; rfl)
  have cl : C.length = 1 := by decide +kernel
  refine ⟨_, h1, .inr ⟨q.1, rfl, lgb (by omega), sI q.1, rfl, ?_, ?_⟩⟩
  · rw [e0]; exact szc (by omega)
  rw [e0]
  refine ⟨C, rfl, ?_, _, h2, .inr ⟨q.2, rfl, lgb (by omega), sI q.2, rfl, ?_, z⟩⟩
  · rw [Str.length_append]; exact szc (by omega)
  · exact szc (Nat.le_trans l3 (by decide))
theorem ev_wordC {q : Int × Int} {n1 n2 : Nat} (ok : OkQ q) (h1 : σ[n1]? = some (some (.int q.1))) (h2 : σ[n2]? = some (some (.int q.2))) : Ev (tOp oCatS (tOp oCatS (tCB cStr (tCons (tVar n1) tNil)) (tC (.str (PySem.Str.ofString "^")))) (tCB cStr (tCons (tVar n2) tNil))) σ H (.str (word q)) := by
  obtain ⟨l1, l2, l3⟩ := word_len ok
  obtain ⟨o1, o2, o3, o4⟩ := ok
  have cl : C.length = 1 := by decide +kernel
  exact ev_catS (ev_catS (ev_strI (ev_v' h1) (by omega)) ev_c (by omega)) (ev_strI (ev_v' h2) (by omega)) (by rw [Str.length_append]; omega)
/-- the words of pairs -/
theorem w_words {n1 n2 : Nat} {a : Addr} {as : List Addr} {qs : List (Int × Int)} {Q : VK} (hev : ∀ q, OkQ q → ∀ σ2 H2, σ2[n1]? = some (some (.int q.1)) → σ2[n2]? = some (some (.int q.2)) → Ev te σ2 H2 (.str (word q))) (ha : Ev tl σ H (.ref a)) (pr : Prs H a as qs) (ok : ∀ q ∈ qs, OkQ q) (hl : qs.length ≤ 20000)
    (hw : ∀ x y, wipe (((wipe σ [n1, n2]).set n1 (some x)).set n2 (some y)) [n1, n2] = wipe σ [n1, n2]) (hn : n1 < σ.length ∧ n2 < σ.length ∧ n1 ≠ n2) (q : ∀ D, H D = none → Q (.ref D) (upd H D (.lst ((qs.map word).map V.str)))) :
    tLc (iList K tl) (gTup K 2 (gCons (gName n1) (gCons (gName n2) gNil))) tYes te [n1, n2] σ H Q := by
  have hal := pr.len
  refine w_lcG ha (sq_at pr.lst) (fun D i H' => H' = upd H D (.lst (((qs.take i).map word).map V.str))) (fun D hD => by simp) (fun D i H' hD hv => by rw [hv]; exact sq_new hD (sq_at pr.lst)) (fun D i x H' hD hx hv => ?_) fun D H' hD hv => ?_
  · subst hv
    obtain ⟨b, z, _, rfl, hz, hb⟩ := pr.get hx
    have hlt := (List.getElem?_eq_some_iff.mp hz).1
    refine g_pair (by rw [upd_ne (ne_of_none hb hD)]; exact hb) ⟨hw _ _, et_yes _ (iteT (hev z (ok z (List.mem_of_getElem? hz)) _ _ ?_ ?_ _ ⟨_, upd_same, ?_, ?_⟩))⟩
    · rw [List.getElem?_set_ne (Ne.symm hn.2.2), List.getElem?_set_self (by rw [show (wipe σ [n1, n2]).length = σ.length by simp [wipe]]; exact hn.1)]
    · rw [List.getElem?_set_self (by rw [List.length_set, show (wipe σ [n1, n2]).length = σ.length by simp [wipe]]; exact hn.2.1)]
    · rw [List.length_map, List.length_map, List.length_take]; exact szl (by omega)
    · rw [upd_upd, List.take_add_one, hz, List.map_append, List.map_append]; rfl
  · subst hv
    rw [List.length_map, hal, List.take_length]
    exact q D hD
theorem words_sum : ∀ {qs : List (Int × Int)}, (∀ q ∈ qs, OkQ q) → ((qs.map word).map (·.length)).sum ≤ 12 * qs.length
  | [], _ => by simp
  | q :: r, h => by
    have := words_sum (qs := r) fun z hz => h z (List.mem_cons_of_mem _ hz)
    have h1 := (word_len (h q List.mem_cons_self)).2.2
    simp only [List.map_cons, List.sum_cons, List.length_cons]
    omega
theorem words_fit {qs : List (Int × Int)} (ok : ∀ q ∈ qs, OkQ q) (hl : qs.length ≤ 20000) : ((qs.map word).map (·.length)).sum + (qs.map word).length * B.length ≤ 16777216 := by
  have := words_sum ok
  rw [List.length_map, show B.length = 1 by decide +kernel]
  omega
end
/-! ### shown -/
def sp_show_parts (K : PySem.W.Frag) : Sp := fun vs H Q _ => Nod H ∧ ∃ (a : Addr) (as : List Addr) (qs : List (Int × Int)), vs = [.ref a] ∧ Prs H a as qs ∧ (∀ q ∈ qs, OkQ q) ∧ qs.length ≤ 20000 ∧ Q (.str (shw qs)) H
/-- slots: parts prime times -/
abbrev n_show_parts : List Str := ["parts", "prime", "times"]
def t_show_parts (K : PySem.W.Frag) : TS := (sFg (tSeq (tIfS (tTest (tOp (rEqD K) (tVar 0) (tLst tNil))) (tRet (tC (.str (PySem.Str.ofString "1")))) tNext)
  (tRet (tM1 (rJoin K) (tC (.str (PySem.Str.ofString " "))) (tLc (iList K (tVar 0)) (gTup K 2 (gCons (gName 1) (gCons (gName 2) gNil))) tYes (tJoined [(tFmt (tVar 1)), (tC (.str (PySem.Str.ofString "^"))), (tFmt (tVar 2))]) [1, 2])))))
theorem r_show_parts {K : PySem.W.Frag} {vs : List V} {H : Hp} {Q : VK} {E : XK} (h : sp_show_parts K vs H Q E) : t_show_parts K { nx := fun _ H' => Q .non H', rt := Q } (start n_show_parts vs) H := by
  obtain ⟨nd, a, as, qs, rfl, pr, ok, hl, q⟩ := h
  refine fg_body (q_ifW (w_tst (w_op (w_v 0 (el_nil _ fun p hp => rv_eqP (pr.ex (ex_new hp)) (Prs.nil upd_same) _ ⟨_, rfl, by_dec (fun hc => ?_) fun hc => w_next ?_⟩)))))
  · refine s_ret ev_c ⟨_, fg_same (ex_new hp), ?_⟩
    rw [hc] at q
    exact q
  · dsimp only
    refine s_retW (w_join (a := B) ev_c (w_words (as := as) (qs := qs) (fun q h _ _ h1 h2 => ev_wordF h h1 h2) (ev_v 0) (pr.ex (ex_new hp)) ok hl (fun _ _ => rfl) ⟨by show 1 < 3; decide, by show 2 < 3; decide, by decide⟩ fun D hD => r_join sq_up (words_fit ok hl) ⟨_, fg_same (ex_upd (none_upd hD).1 (ex_new hp)), ?_⟩))
    have e : shw qs = Txt.join B (qs.map word) := if_neg hc
    rw [← e]
    exact q
/-! ### the deck -/
abbrev dk (d t k : Int) : List V := [.int d, .int t, .int k]
def sp_law_deck (K : PySem.W.Frag) : Sp := fun vs H Q _ => Nod H ∧ ∃ (c k : Int), vs = [.int c, .int k] ∧ ∀ (p : Addr) (d t : Int), H p = none → Q (.ref p) (upd H p (.lst (dk d t k)))
/-- slots: cell k -/
abbrev n_law_deck : List Str := ["cell", "k"]
def t_law_deck (K : PySem.W.Frag) : TS := (sFg (tSeq (tIfS (tTest (tOp oGe (tVar 0) (tOp oPow (tC (.int 10)) (tC (.int 18))))) (tRet (tLst (tCons (tOp oSub (tVar 0) (tOp oPow (tC (.int 10)) (tC (.int 18)))) (tCons (tC (.int 0)) (tCons (tVar 1) tNil))))) tNext)
  (tRet (tLst (tCons (tVar 0) (tCons (tC (.int 1)) (tCons (tVar 1) tNil)))))))
theorem r_law_deck {K : PySem.W.Frag} {vs : List V} {H : Hp} {Q : VK} {E : XK} (h : sp_law_deck K vs H Q E) : t_law_deck K { nx := fun _ H' => Q .non H', rt := Q } (start n_law_deck vs) H := by
  obtain ⟨nd, c, k, rfl, q⟩ := h
  refine fg_body (q_whenP (ep_ge (i := c) (ev_v 0) (ev_pow ev_c ev_c (cp (by decide)))) (fun _ => ?_) fun _ => ?_)
  · exact s_retW (el_lst (ea_3 (ev_sub (i := c) (ev_v 0) (ev_pow ev_c ev_c (cp (by decide)))) ev_c (ev_v 1)) (by simp) _ fun p hp => ⟨_, fg_newL hp (ex_new hp) upd_same, q p _ _ hp⟩)
  · exact s_retW (el_lst (ea_3 (ev_v 0) ev_c (ev_v 1)) (by simp) _ fun p hp => ⟨_, fg_newL hp (ex_new hp) upd_same, q p _ _ hp⟩)
def sp_law_take (K : PySem.W.Frag) : Sp := fun vs H Q _ => Nod H ∧ ∃ (a : Addr) (d t k m : Int), vs = [.ref a, .int m] ∧ H a = some (.lst (dk d t k)) ∧ 0 ≤ k ∧ k < 2 ^ 60 ∧ 0 < m ∧ m < 2 ^ 200 ∧
  ∀ (r d' k' : Int), 0 ≤ r → r < m → k ≤ k' → k' ≤ k + 1 → Q (.int r) (upd H a (.lst (dk d' t k')))
/-- slots: deck many come number -/
abbrev n_law_take : List Str := ["deck", "many", "come", "number"]
def t_law_take (K : PySem.W.Frag) : TS := (sFg (tSeq (tIfS (tTest (tOp rEq (tOp (rIxL K) (tVar 0) (tC (.int 1))) (tC (.int 0)))) (tSeq (tAsg (tOp oMod (tOp (rIxL K) (tVar 0) (tC (.int 0))) (tVar 1)) (gName 2))
  (tSeq (tAsg (tOp oDiv (tOp (rIxL K) (tVar 0) (tC (.int 0))) (tVar 1)) (gSub (tVar 0) (tC (.int 0)) rSetL))
  (tRet (tVar 2)))) tNext)
  (tSeq (tAsg (tOp oAdd (tOp (rIxL K) (tVar 0) (tC (.int 2))) (tC (.int 1))) (gSub (tVar 0) (tC (.int 2)) rSetL))
  (tSeq (tAsg (tOp oMul (tOp oMod (tOp (rIxL K) (tVar 0) (tC (.int 0))) (tC (.int 2147483647))) (tOp oAdd (tOp oMul (tOp (rIxL K) (tVar 0) (tC (.int 2))) (tOp (rIxL K) (tVar 0) (tC (.int 2)))) (tC (.int 48271)))) (gName 3))
  (tSeq (tAsg (tOp oMod (tOp oAdd (tOp oAdd (tVar 3) (tOp (rIxL K) (tVar 0) (tC (.int 2)))) (tC (.int 7))) (tC (.int 2147483629))) (gName 3))
  (tSeq (tAsg (tOp oMod (tOp oMul (tVar 3) (tVar 3)) (tC (.int 2147483587))) (gName 3))
  (tRet (tOp oMod (tOp oDiv (tOp oMod (tOp oMul (tVar 3) (tC (.int 69621))) (tC (.int 2147483563))) (tC (.int 8))) (tVar 1)))))))))
theorem r_law_take {K : PySem.W.Frag} {vs : List V} {H : Hp} {Q : VK} {E : XK} (h : sp_law_take K vs H Q E) : t_law_take K { nx := fun _ H' => Q .non H', rt := Q } (start n_law_take vs) H := by
  obtain ⟨nd, a, d, t, k, m, rfl, ha, hk0, hk1, hm0, hm1, q⟩ := h
  have hs : SqL K H a (dk d t k) := sq_at ha
  refine fg_body (q_whenP (ep_eqi (i := t) (ev_ixL (ev_v 0) ev_c hs rfl) ev_c) (fun _ => ?_) fun _ => ?_)
  · refine q_set (ev_mod (i := d) (j := m) (ev_ixL (ev_v 0) ev_c hs rfl) (ev_v 1) hm0) (q_sub ha (j := 0) rfl (ev_div (i := d) (j := m) (ev_ixL (ev_v 0) ev_c hs rfl) (ev_v 1) (cd ⟨hm0, hm1⟩)) (ev_v 0) ev_c ?_)
    refine s_ret (v := .int (d % m)) (ev_v 2) ⟨_, fg_mutL ha (fun b u hb hu => by rw [upd_ne hb]; exact hu) upd_same, ?_⟩
    exact q (d % m) (d / m) k (Int.emod_nonneg _ (by omega)) (Int.emod_lt_of_pos _ hm0) (Int.le_refl _) (by omega)
  · refine q_sub ha (j := 2) rfl (ev_add (i := k) (ev_ixL (ev_v 0) ev_c hs rfl) ev_c) (ev_v 0) ev_c ?_
    show tSeq _ _ _ _ (upd H a (.lst (dk d t (k + 1))))
    have hs2 : SqL K (upd H a (.lst (dk d t (k + 1)))) a (dk d t (k + 1)) := sq_up
    have b1 : 0 ≤ d % 2147483647 ∧ d % 2147483647 < 2147483647 := ⟨Int.emod_nonneg _ (by omega), Int.emod_lt_of_pos _ (by omega)⟩
    have b2 : 0 ≤ (k + 1) * (k + 1) ∧ (k + 1) * (k + 1) ≤ 2 ^ 60 * 2 ^ 60 := ⟨Int.mul_nonneg (by omega) (by omega), Int.mul_le_mul (by omega) (by omega) (by omega) (by omega)⟩
    refine q_set (ev_mul (i := d % 2147483647) (j := (k + 1) * (k + 1) + 48271) (ev_mod (i := d) (ev_ixL (ev_v 0) ev_c hs2 rfl) ev_c (by omega)) (ev_add (i := (k + 1) * (k + 1)) (ev_mul (i := k + 1) (j := k + 1) (ev_ixL (ev_v 0) ev_c hs2 rfl) (ev_ixL (ev_v 0) ev_c hs2 rfl) (cm (by omega))) ev_c) (cm (by omega))) ?_
    generalize d % 2147483647 * ((k + 1) * (k + 1) + 48271) = n1
    refine q_set (ev_mod (i := n1 + (k + 1) + 7) (ev_add (i := n1 + (k + 1)) (ev_add (i := n1) (j := k + 1) (ev_v 3) (ev_ixL (ev_v 0) ev_c hs2 rfl)) ev_c) ev_c (by omega)) ?_
    have b3 : 0 ≤ (n1 + (k + 1) + 7) % 2147483629 ∧ (n1 + (k + 1) + 7) % 2147483629 < 2147483629 := ⟨Int.emod_nonneg _ (by omega), Int.emod_lt_of_pos _ (by omega)⟩
    generalize (n1 + (k + 1) + 7) % 2147483629 = n2 at b3
    refine q_set (ev_mod (i := n2 * n2) (ev_mul (i := n2) (j := n2) (ev_v 3) (ev_v 3) (cm (by omega))) ev_c (by omega)) ?_
    have b4 : 0 ≤ (n2 * n2) % 2147483587 ∧ (n2 * n2) % 2147483587 < 2147483587 := ⟨Int.emod_nonneg _ (by omega), Int.emod_lt_of_pos _ (by omega)⟩
    generalize (n2 * n2) % 2147483587 = n3 at b4
    refine s_ret (ev_mod (j := m) (ev_div (ev_mod (i := n3 * 69621) (ev_mul (i := n3) (ev_v 3) ev_c (cm (by omega))) ev_c (by omega)) ev_c (cd (by omega))) (ev_v 1) hm0) ⟨_, fg_mutL ha (fun b u hb hu => by rw [upd_ne hb]; exact hu) upd_same, ?_⟩
    exact q _ d (k + 1) (Int.emod_nonneg _ (by omega)) (Int.emod_lt_of_pos _ hm0) (by omega) (Int.le_refl _)
/-- a draw from a deck that is one's own -/
theorem Own.take {K : PySem.W.Frag} {B H : Hp} {L : List (Addr × List V)} {p : Addr} {d t k m : Int} {Q : VK} {E : XK} (o : Own B L H) (i : Nat) (h : L[i]? = some (p, dk d t k)) (hk : 0 ≤ k ∧ k < 2 ^ 60) (m0 : 0 < m ∧ m < 2 ^ 200)
    (c : ∀ (r d' k' : Int) (H2 : Hp), 0 ≤ r ∧ r < m → k ≤ k' ∧ k' ≤ k + 1 → Own B (L.set i (p, dk d' t k')) H2 → Q (.int r) H2) : sp_law_take K ([.ref p, .int m] ++ []) H Q E :=
  ⟨o.nod, p, d, t, k, m, rfl, o.atI i h, hk.1, hk.2, m0.1, m0.2, fun r d' k' h0 h1 h2 h3 => c r d' k' _ ⟨h0, h1⟩ ⟨h2, h3⟩ (o.mut i h)⟩
/-! ### a dict of truths beside a deck -/
abbrev bK (k : Int) : Key × V := (Sum.inl k, V.bl true)
theorem put_bK {ks : List Int} (k : Int) : putK (ks.map bK) (Sum.inl k) (V.bl true) = (if k ∈ ks then ks else ks ++ [k]).map bK := by
  unfold putK
  have e1 : ((ks.map bK).any fun kv => decide (kv.1 = (Sum.inl k : Key))) = decide (k ∈ ks) := by
    rw [List.any_map]
    induction ks with
    | nil => simp
    | cons x r ih =>
      rw [List.any_cons, ih]
      by_cases h : x = k
      · simp [h]
      · have : k ≠ x := fun z => h z.symm
        simp [h, this]
  rw [e1]
  by_cases h : k ∈ ks
  · rw [decide_eq_true h, if_pos h]
    simp only [if_true, List.map_map]
    refine List.map_congr_left fun x hx => ?_
    show (if (Sum.inl x : Key) = Sum.inl k then ((Sum.inl x : Key), V.bl true) else bK x) = bK x
    split <;> rfl
  · rw [decide_eq_false h, if_neg h]
    simp
structure Dk2 (H : Hp) (a pd : Addr) (t d k : Int) (ks : List Int) (H' : Hp) : Prop where
  nod : Nod H'
  ex : Ex (del H a) H'
  ha : H' a = some (.lst (dk d t k))
  hp : H' pd = some (.dK (ks.map bK))
theorem Dk2.ne {H : Hp} {a pd : Addr} {t d k : Int} {ks : List Int} {H' : Hp} (c : Dk2 H a pd t d k ks H') : pd ≠ a := fun z => by
  have := c.ha
  rw [← z, c.hp] at this
  cases this
theorem Dk2.tmp {H : Hp} {a pd : Addr} {t d k : Int} {ks : List Int} {H' : Hp} {p : Addr} {xs : List V} (c : Dk2 H a pd t d k ks H') (h : H' p = none) : Dk2 H a pd t d k ks (upd H' p (.lst xs)) where
  nod := have := c.nod; inferInstance
  ex := ex_upd (ex_none c.ex h) c.ex
  ha := by rw [upd_ne (ne_of_none c.ha h)]; exact c.ha
  hp := by rw [upd_ne (ne_of_none c.hp h)]; exact c.hp
theorem Dk2.take {K : PySem.W.Frag} {H : Hp} {a pd : Addr} {t d k m : Int} {ks : List Int} {H' : Hp} {Q : VK} {E : XK} (c : Dk2 H a pd t d k ks H') (hk : 0 ≤ k ∧ k < 2 ^ 60) (m0 : 0 < m ∧ m < 2 ^ 200)
    (g : ∀ (r d' k' : Int) (H2 : Hp), 0 ≤ r ∧ r < m → k ≤ k' ∧ k' ≤ k + 1 → Dk2 H a pd t d' k' ks H2 → (∀ b, b ≠ a → H2 b = H' b) → Q (.int r) H2) : sp_law_take K ([.ref a, .int m] ++ []) H' Q E :=
  ⟨c.nod, a, d, t, k, m, rfl, c.ha, hk.1, hk.2, m0.1, m0.2, fun r d' k' h0 h1 h2 h3 => g r d' k' _ ⟨h0, h1⟩ ⟨h2, h3⟩ ⟨(have := c.nod; inferInstance), fun b u hb => by
    rw [upd_ne (fun z => by rw [z, del_at] at hb; cases hb)]; exact c.ex b u hb, upd_same, by rw [upd_ne c.ne]; exact c.hp⟩ fun b hb => upd_ne hb⟩
theorem Dk2.put {H : Hp} {a pd : Addr} {t d k : Int} {ks ks' : List Int} {H' : Hp} (c : Dk2 H a pd t d k ks H') (h : H pd = none) : Dk2 H a pd t d k ks' (upd H' pd (.dK (ks'.map bK))) where
  nod := nod_upd c.nod trivial
  ex := fun b u hb => by
    have : b ≠ pd := fun z => by rw [z] at hb; unfold del at hb; split at hb <;> simp_all
    rw [upd_ne this]; exact c.ex b u hb
  ha := by rw [upd_ne (Ne.symm c.ne)]; exact c.ha
  hp := upd_same
/-- a deck has been drawn from, and pairs have been made -/
theorem NewP.fgM {H H' : Hp} {as : List Addr} {qs : List (Int × Int)} {p a : Addr} {xs ys : List V} {Q : VK} [n : Nod H] (ha : H a = some (.lst xs)) (q : NewP (upd H a (.lst ys)) qs Q) (e : Ex (del H a) H') (h' : H' a = some (.lst ys)) (pr : Prs H' p as qs) (h0 : H p = none) (hnew : ∀ b ∈ as, H b = none) : ∃ H'', Fg H H' H'' ∧ Q (.ref p) H'' := by
  have hS : ∀ b ∈ p :: as, H b = none ∧ ∃ u, fresh u ∧ H' b = some u := fun b hb => ⟨by
    rcases List.mem_cons.mp hb with rfl | hb
    · exact h0
    · exact hnew b hb, pr.all b hb⟩
  have hna : ∀ b ∈ p :: as, b ≠ a := fun b hb z => by have := (hS b hb).1; rw [z, ha] at this; cases this
  have hS2 : ∀ b ∈ p :: as, upd H a (.lst ys) b = none ∧ ∃ u, fresh u ∧ H' b = some u := fun b hb => ⟨by rw [upd_ne (hna b hb)]; exact (hS b hb).1, (hS b hb).2⟩
  have eu : Ex (upd H a (.lst ys)) H' := fun b u hb => by
    by_cases z : b = a
    · rw [z, upd_same] at hb; rw [z, h']; exact hb
    · rw [upd_ne z] at hb; exact e b u (by rw [del_ne z]; exact hb)
  refine ⟨keepS (upd H a (.lst ys)) H' (p :: as), fg_gen (fun b => b = a ∨ b ∈ p :: as) (fun b o h z => ?_) (fun b z => ?_) (fun b h z => ?_), q p as _ (hS2 p List.mem_cons_self).1 (fun b hb => (hS2 b (List.mem_cons_of_mem _ hb)).1) (keepS_ex fun b hb => (hS2 b hb).1) (keepS_nod fun b hb => (hS2 b hb).2) (pr.keep List.mem_cons_self fun b hb => List.mem_cons_of_mem _ hb)⟩
  · have z1 : b ≠ a := fun y => z (.inl y)
    have z2 : b ∉ p :: as := fun y => z (.inr y)
    exact ⟨e b o (by rw [del_ne z1]; exact h), by rw [keepS_off z2, upd_ne z1]; exact h⟩
  · rcases z with rfl | z
    · have : b ∉ p :: as := fun y => hna b y rfl
      exact ⟨.lst ys, trivial, h', by rw [keepS_off this]; exact upd_same, fun u hu => by rw [ha] at hu; cases hu; trivial⟩
    · obtain ⟨g1, u, f, g2⟩ := hS b z
      exact ⟨u, f, g2, by rw [keepS_in z]; exact g2, fun w hw => by rw [g1] at hw; cases hw⟩
  · have z1 : b ≠ a := fun y => z (.inl y)
    have z2 : b ∉ p :: as := fun y => z (.inr y)
    rw [keepS_off z2, upd_ne z1]; exact h
end Px
set_option Elab.async false
set_option linter.all false
set_option maxRecDepth 100000
set_option maxHeartbeats 4000000
namespace Px
open PySem PySem.Spec PyProof.Rows L2
/-! ### comprehensions whose element may raise -/
theorem okXe {X : Cx} (ok : X.Ok) (xe : Value → Shared → Prop) : ({ X with xe := xe } : Cx).Ok :=
  ⟨ok.mod, ok.kind, ok.glob, ok.blt, ok.above, ok.inj, ok.has, ok.cab, ok.hd, ok.frames, ok.stk, ok.exf, ok.bs, ok.bsz, ok.noex, ok.exfs, ok.funs, ok.frf⟩
theorem invXe {X : Cx} {pins : List (Addr × Obj)} {σ : L2.St} {H : Hp} {s : Shared} (I : Inv X pins σ H s) (xe : Value → Shared → Prop) : Inv ({ X with xe := xe } : Cx) pins σ H s :=
  ⟨okXe I.ok xe, I.os, I.bare, I.base, I.loc, I.cell, I.free, I.freeC, I.pin, I.hok, I.len⟩
theorem invXeB {X : Cx} {pins : List (Addr × Obj)} {σ : L2.St} {H : Hp} {s : Shared} {xe : Value → Shared → Prop} (I : Inv ({ X with xe := xe } : Cx) pins σ H s) : Inv X pins σ H s :=
  invXe I X.xe
/-- an exception that flies in from a call within a block -/
def XB (X : Cx) (W : WX) (u : Value) (s' : Shared) : Prop :=
  ∃ (a : Addr) (B : Heap) (sI : Shared) (pins : List (Addr × Obj)) (σ : L2.St) (H : Hp) (cls : Value) (d : Option Addr),
    u = .ref a ∧ Inv X pins σ H sI ∧ (∀ b o, sI.heap.get? b = some o → b ∉ frs X.stack → B.get? b = some o) ∧ sI.heap.UpToSlots s'.heap ∧
      HandSPX.FlyingZ B X.stack a (Zc cls d) s'.heap ∧ H a = none ∧ s'.os = sI.os ∧ AllBare s'.gens ∧ W cls d σ H
theorem xb_call {X : Cx} {pins : List (Addr × Obj)} {σ : L2.St} {H : Hp} {s s' : Shared} {E : XK} {W : WX} (I : Inv X pins σ H s) (hW : ∀ cls d H', E cls d H' → W cls d σ H') {u : Value} (c : L2.CX X.prog X.w X.stack H s E u s') : XB X W u s' := by
  obtain ⟨a, B, H', cls, d, rfl, fl, hok, ub, na, os, ag, hE⟩ := c
  obtain ⟨G, g1, g2⟩ := restrict s'.heap fun b => (B.get? b).isSome || decide (b ∈ frs X.stack)
  have st : B.StaysIn s'.heap := fl.1
  have gB : ∀ b o, B.get? b = some o → G.get? b = some o := fun b o e => by
    rw [g1 b (by simp [e])]
    exact st b o e
  have gF : ∀ b, b ∈ frs X.stack → G.get? b = s'.heap.get? b := fun b hb => g1 b (by simp [hb])
  have og : ∀ b o, G.get? b = some o → s'.heap.get? b = some o ∧ ((B.get? b).isSome = true ∨ b ∈ frs X.stack) := fun b o e => by
    cases q : ((B.get? b).isSome || decide (b ∈ frs X.stack)) with
    | false => rw [g2 b q] at e; cases e
    | true =>
      rw [g1 b q] at e
      exact ⟨e, by simpa [Bool.or_eq_true] using q⟩
  refine ⟨a, B, { s with heap := G, gens := s'.gens, drawn := s'.drawn, toks := s'.toks }, pins, σ, H', cls, d, rfl, ?_, fun b o e hb => ?_, Heap.UpToSlots.of_keeps fun b o e => (og b o e).1, fl, na, os, ag, hW _ _ _ hE⟩
  · refine I.call (ch := []) ⟨fun b o e n hb _ => gB b o (ub.keep b o e n hb), fun b o e n hb _ => ?_, fun b o e n _ => ub.free b o e n, fun b o e _ => ?_, ub.tups, ub.frzs, ub.tbls⟩ (hok.kept gB) ag (fun _ z => nomatch z)
    · obtain ⟨sl, q⟩ := ub.slot b o e hb
      exact ⟨sl, by rw [gF b hb]; exact q⟩
    · by_cases hb : b ∈ frs X.stack
      · obtain ⟨sl, q⟩ := ub.slot b o e hb
        exact ⟨_, by rw [gF b hb]; exact q⟩
      · obtain ⟨o', q⟩ := ub.there b o e hb
        exact ⟨o', gB b o' q⟩
  · obtain ⟨e', h⟩ := og b o e
    rcases h with h | h
    · obtain ⟨o', q⟩ := Option.isSome_iff_exists.mp h
      have z := st b o' q
      rw [e'] at z; cases z
      exact q
    · exact absurd h hb
/-- the context of a block whose element may raise -/
abbrev blkX (X : Cx) (W : WX) (s : Shared) (H : Hp) (scope : Scope) (cenv : Env) (fp : List Addr) : Cx := { X.blk s H scope cenv fp with xe := XB (X.blk s H scope cenv fp) W }
theorem blk_pass {X : Cx} {W : WX} {s : Shared} {H : Hp} {scope : Scope} {cenv : Env} {fp : List Addr} (σ : L2.St) : PassesAt (L2.CX X.prog X.w) (blkX X W s H scope cenv fp) σ (WE W σ) := fun pins H2 s2 e s' I c =>
  xb_call (X := X.blk s H scope cenv fp) (invXeB (X := X.blk s H scope cenv fp) I) (fun _ _ _ h => h) c
/-- the exception goes on in the def's own frame -/
theorem xb_leaves {X : Cx} {W : WX} {s3 : Shared} {H3 : Hp} {scope : Scope} {ce : Env} {fp : List Addr} {pins : List (Addr × Obj)} {σ : L2.St} (hs : X.stack = X.env :: X.outer) (hf : X.env.frame = some X.env.locals) (tk : Takes X W)
    (I3 : Inv X pins σ H3 s3) (cF : ce.frame = X.env.frame) (cL : ce.locals = s3.heap.objs.size) (f3 : ∀ b ∈ fp, FpOk X pins H3 b ∧ b < s3.heap.objs.size) {use : Option (Value → Sem Unit)} {Qf : Value → Shared → Prop} {acc u : Value} {s' : Shared}
    (x : XB (X.blk s3 H3 scope ce fp) (fun cls d _ H => W cls d σ H) u s') :
    notedBy (model X.prog X.w) X.A ce (fun e s' => compEnds (model X.prog X.w) X.A X.xe use Qf acc ce (.error e) s') u s' := by
  obtain ⟨a, B, sI, pins', σ', H', cls, d, rfl, I', nb, up, fl, na, os, ag, w⟩ := x
  have nb : ∀ b o, sI.heap.get? b = some o → b ∉ frs X.stack → B.get? b = some o := nb
  have fl : HandSPX.FlyingZ B X.stack a (Zc cls d) s'.heap := fl
  have hfr : X.A.frames = some (X.env :: X.outer) := by rw [I3.ok.frames, hs]
  have cF2 : ce.frame = some X.env.locals := by rw [cF, hf]
  have eN : noteFrame (.ref a) ce = noteFrame (.ref a) X.env := by
    unfold PySem.noteFrame PySem.frameOf
    rw [cF]
  have fl2 := fl
  rw [hs] at fl2
  show wpAny _ X.A (noteFrame (.ref a) ce) _ _ s'
  rw [eN]
  refine HandSPX.looks_onZ Zc.steady hfr hf fl2 fun h1 held1 up1 => ?_
  have J1 : Inv (X.blk s3 H3 scope ce fp) pins' σ' H' { s' with heap := h1 } := I'.landed nb held1.1 (up.trans up1) os ag
  obtain ⟨m, hn, _⟩ := J1.loc
  have hn : h1.Ns ce.locals m := hn
  have nC : H' ce.locals = none := I'.free
  have J0 : Inv X pins σ H' sI := I3.call' (ch := fp) I'.os I'.base I'.hok I'.bare fun b hb => ⟨(f3 b hb).1.2.2.2.1, (f3 b hb).1.2.1, (f3 b hb).1.2.2.2.2.1, (f3 b hb).1.2.2.2.2.2⟩
  have fC : FpOk X pins H' ce.locals := by
    rw [cL] at nC ⊢
    exact I3.fpOk (Nat.le_refl _) nC
  have go : CompFails (model X.prog X.w) X.A X.xe ce (.ref a) { s' with heap := h1 } := by
    refine ⟨m, hn, fun h2 m2 hn2 sb => ?_⟩
    obtain ⟨k1, k2, k3, k4⟩ := held1
    obtain ⟨oe, vs, T, oT, ts, he, hz, hd, hv1, hnT, hTe, hT, hdT, hv3⟩ := k4
    obtain ⟨oC, es, ep, hoC, hdC, _⟩ := hn
    have aC : a ≠ ce.locals := fun z => by rw [z, hoC] at he; cases he; rw [hdC] at hd; cases hd
    have TC : T ≠ ce.locals := fun z => by rw [z, hoC] at hT; cases hT; rw [hdC] at hdT; cases hdT
    have he2 : h2.get? a = some oe := (sb.2 a aC).trans he
    have hT2 : h2.get? T = some oT := (sb.2 T TC).trans hT
    -- the ground without the block's names
    have gone : ∀ b o, (PySem.W.hideAll B [ce.locals]).get? b = some o → B.get? b = some o ∧ b ≠ ce.locals := fun b o e => ⟨PySem.W.of_hideAll _ e, fun z => by rw [z, PySem.W.hideAll_none [ce.locals] (by simp)] at e; cases e⟩
    have goneN : ∀ b, B.get? b = none → (PySem.W.hideAll B [ce.locals]).get? b = none := fun b e => by
      cases q : (PySem.W.hideAll B [ce.locals]).get? b with
      | none => rfl
      | some o => rw [(gone b o q).1] at e; cases e
    have held2 : HandSPX.HeldZ (PySem.W.hideAll B [ce.locals]) (X.env :: X.outer) a (Zc cls d) X.env.locals h2 :=
      ⟨fun b o e => by
        obtain ⟨e1, e2⟩ := gone b o e
        exact (sb.2 b e2).trans (k1 b o e1), goneN a k2, funFrames_none (Heap.FunFrames.sameBut sb hn2 k3) (fun L hL => goneN L (k3.mem hL).1),
        ⟨oe, vs, T, oT, ts, he2, hz, hd, hv1, goneN T hnT, hTe, hT2, hdT, hv3⟩⟩
    unfold PySem.passOn
    refine wpAny_bind (wpAny_field he2 hd hv1 ?_)
    rw [if_neg (show ¬ ((Value.ref T == Value.none) = true) from by simp)]
    have fin : wpAny (model X.prog X.w) X.A (setFlight (.ref a) ce.frame) (fun _ s4 => wpAny (model X.prog X.w) X.A (throw (.ref a) : Sem Value) (fun _ _ => False) X.xe s4) X.xe { s' with heap := h2 } := by
      rw [cF2]
      refine HandSPX.setFlight_onZ held2 fun h4 held4 up4 => wpAny_throw (tk _ _ ?_)
      refine ⟨a, PySem.W.hideAll B [ce.locals], { sI with heap := PySem.W.hideAll sI.heap [ce.locals] }, pins, σ, H', cls, d, rfl,
        J0.turned (it := ce.locals) (h' := PySem.W.hideAll sI.heap [ce.locals]) (t' := sI.toks) (fun b o hb e => PySem.W.hideAll_get _ e (by simp [hb])) fC.1 fC.2.1 fC.2.2.2.1 fC.2.2.2.2.1 fC.2.2.2.2.2,
        fun b o e hb => ?_, fun b o e hnf => ?_, .inr (.inr (by rw [hs]; exact held4)), na, os, ag, w⟩
      · have e1 : sI.heap.get? b = some o := PySem.W.of_hideAll _ e
        have e2 : b ≠ ce.locals := fun z => by rw [z] at e; have e : (PySem.W.hideAll sI.heap [ce.locals]).get? ce.locals = some o := e; rw [PySem.W.hideAll_none [ce.locals] (by simp)] at e; cases e
        exact PySem.W.hideAll_get _ (nb b o e1 hb) (by simp [e2])
      · have e1 : sI.heap.get? b = some o := PySem.W.of_hideAll _ e
        have e2 : b ≠ ce.locals := fun z => by rw [z] at e; have e : (PySem.W.hideAll sI.heap [ce.locals]).get? ce.locals = some o := e; rw [PySem.W.hideAll_none [ce.locals] (by simp)] at e; cases e
        obtain ⟨sl1, q1⟩ := (up.trans up1) b o e1 hnf
        obtain ⟨sl2, q2⟩ := up4 b _ ((sb.2 b e2).trans q1) hnf
        exact ⟨sl2, q2⟩
    first
      | exact wpAny_bind (wpAny_pure (wpAny_bind fin))
      | exact wpAny_bind fin
  cases use <;> exact go
/-- [elt for target in iter], the element may raise -/
def tLcX (wi : TI) (g : TG) (tt : TT) (te : WX → TE) (vs : List Nat) (W : WX) : TE := fun σ H Q => tLc wi g tt (te fun cls d _ H' => W cls d σ H') vs σ H Q
theorem lc_coreX {X : Cx} {W : WX} {pins : List (Addr × Obj)} {s : Shared} {σ : L2.St} {H : Hp} {Q : VK} {elt tg iter : Expr} {ifs : List Expr} {scope : Scope} {own : List (Str × Nat)} {pos pos' : Pos} {wi : TI} {g : TG} {tt : TT} {te : WX → TE} {use : Option (Value → Sem Unit)} {Qf : Value → Shared → Prop}
    (hs1 : X.stack = X.env :: X.outer) (hf1 : X.env.frame = some X.env.locals) (tk : Takes X W)
    (hc : X.calm = true) (hN : X.N.Nodup) (I : Inv X pins σ H s) (hi : PI X tg iter wi) (ok : BlkOk X.N X.env.scope scope own)
    (hg : ∀ (s : Shared) (H : Hp) (C : Addr) (cl : List (Str × Addr)) (fp : List Addr), PG (X.blk s H scope (compEnvC scope cl C X.env) fp) tg g) (ht : ∀ (s : Shared) (H : Hp) (C : Addr) (cl : List (Str × Addr)) (fp : List Addr), PTs (X.blk s H scope (compEnvC scope cl C X.env) fp) ifs tt)
    (he : ∀ (W : WX) (s : Shared) (H : Hp) (C : Addr) (cl : List (Str × Addr)) (fp : List Addr), PE (blkX X W s H scope (compEnvC scope cl C X.env) fp) elt (te W)) (hs : ∀ x, foldedSetIterable iter X.env x = pure x)
    (h : tLcX wi g tt te (own.map (·.2)) W σ H Q)
    (hRR : ∀ D C s' m H' cl, Inv X pins σ H' s' → Q (.ref D) H' → s'.heap.Ns C m → FpOk X pins H' C → compEnds (model X.prog X.w) X.A X.xe use Qf (.ref D) (compEnvC scope cl C X.env) (.ok .next) s') :
    wpAny (model X.prog X.w) X.A (comprehension (.ListComp elt [⟨tg, iter, ifs, 0⟩] scope pos) scope X.env pos' (newList []) false (eval iter X.env) use) Qf X.xe s := by
  have hfree : ∀ y ∈ scope.names, y.2 = .free → ∃ c, X.env.cells.lookup y.1 = some c := fun y hy e => by
    rcases ok.free y hy e with k | k
    · exact I.ok.has _ (.inl k)
    · exact I.ok.has _ (.inr k)
  refine comprehension_at (use := use) rfl hs (closure_ok hfree) ok.kind (fun y hy e => by rw [ok.uniq y hy, e])
    (thn (hi.run pins s σ H _ I h) fun xv s1 hx => thn hx fun itv s2 h2 => ?_)
  obtain ⟨it, fp, tn, J, H2, e, I2, T, st2, f2, q⟩ := h2
  subst e
  refine wpAny_newObj_type (newEnv_comp ?_) (by show 0 ≤ sizeLine; decide)
  generalize hD : s2.heap.objs.size = D
  have hDn : H2 D = none := I2.hok.fresh (Nat.le_of_eq hD)
  obtain ⟨Wn, ⟨m0, w0⟩, turn⟩ := q D hDn
  -- the new list
  generalize hs3 : ({ s2 with heap := s2.heap.push { cls := .type "list", data := .seq ([] : List Value).toArray } } : Shared) = s3
  have I3 : Inv X pins σ (upd H2 D (.lst [])) s3 := by
    rw [← hs3]
    refine I2.laid (t' := s2.toks) (fun b o e => Heap.get?_push_of_some _ e) (Nat.le_of_eq hD) ⟨Nat.zero_le _, [], 0, .nil, ?_⟩
    rw [← hD]
    exact Heap.get?_push_size _ rfl
  have h3 : s3.heap = s2.heap.push { cls := .type "list", data := .seq ([] : List Value).toArray } := by rw [← hs3]
  have sz : ∀ b ∈ fp, b < s2.heap.objs.size := fun b hb => by
    obtain ⟨o, e, _⟩ := T.obj _ _ st2 b hb
    exact Heap.lt_size e
  have f3 : ∀ b ∈ fp, FpOk X pins (upd H2 D (.lst [])) b ∧ b < s3.heap.objs.size := fun b hb => by
    have hlt := sz b hb
    refine ⟨⟨?_, (f2 b hb).2⟩, by rw [h3, Heap.size_push]; exact Nat.lt_succ_of_lt hlt⟩
    rw [upd_ne (by rw [← hD]; exact Nat.ne_of_lt hlt)]
    exact (f2 b hb).1
  have st3 : tn 0 s3.heap := T.keep _ _ _ st2 fun b _ o e => by rw [h3]; exact Heap.get?_push_of_some _ e
  have I4 := block_start I3 ok hN f3
  generalize hcl : cellsFrom (s3.heap.objs.size + 1) scope.names (cloFrom X.env.cells scope.names []) = cl at I4
  have pg := hg s3 (upd H2 D (.lst [])) s3.heap.objs.size cl fp
  have pt := ht s3 (upd H2 D (.lst [])) s3.heap.objs.size cl fp
  have pe := he (fun cls d _ H' => W cls d σ H') s3 (upd H2 D (.lst [])) s3.heap.objs.size cl fp
  have hRR := fun D s' m H' => hRR D s3.heap.objs.size s' m H' cl
  show codeAny _ _ (.compStart (.ListComp elt [⟨tg, iter, ifs, 0⟩] scope pos) 0 (.ref it) (.ref D) (compEnvC scope cl s3.heap.objs.size X.env)) (compEnds (model X.prog X.w) X.A X.xe use Qf (.ref D) (compEnvC scope cl s3.heap.objs.size X.env)) { s3 with heap := pushCells (s3.heap.push { cls := .type "dict", data := .dict #[] }) scope.names }
  have nfp : ∀ b ∈ fp, (upd H2 D (.lst [])) b = none := fun b hb => (f3 b hb).1.1
  have cF : (compEnvC scope cl s3.heap.objs.size X.env).frame = X.env.frame := rfl
  generalize hce : compEnvC scope cl s3.heap.objs.size X.env = ce at I4 pg pt pe hRR cF ⊢
  have cL : ce.locals = s3.heap.objs.size := by subst hce; rfl
  generalize hH3 : upd H2 D (.lst []) = H3 at I3 I4 pg pt pe w0 nfp f3
  generalize hs4 : ({ s3 with heap := pushCells (s3.heap.push { cls := .type "dict", data := .dict #[] }) scope.names } : Shared) = s4 at I4 ⊢
  have st4 : tn 0 s4.heap := T.keep _ _ _ st3 fun b _ o e => by rw [← hs4]; exact pushCells_keeps _ _ _ _ (Heap.get?_push_of_some _ e)
  have stat : ∀ {σ' : L2.St} {H' : Hp} {s' : Shared}, Inv (X.blk s3 H3 scope ce fp) [] σ' H' s' → (∀ b ∈ fp, H' b = none) → ∀ b ∈ fp, FpOk (X.blk s3 H3 scope ce fp) [] H' b := fun {σ' H' s'} I' hn b hb =>
    ⟨hn b hb, (I'.ok.exf b hb).1, I'.ok.exfs b hb, .inl hb, fun x c e => (I'.ok.exf b hb).2 x c e, fun p hp => absurd (show p ∈ ([] : List (Addr × Obj)) ++ [] from hp) (by simp)⟩
  have loop : codeAny (model X.prog X.w) X.A (.compLoop (.ListComp elt [⟨tg, iter, ifs, 0⟩] scope pos) 0 (.ref it) (.ref D) ce) (compEnds (model X.prog X.w) X.A X.xe use Qf (.ref D) ce) s4 := by
    refine compLoop_any (fun n s' => ∃ i H', Inv (X.blk s3 H3 scope ce fp) [] (wipe σ (own.map (·.2))) H' s' ∧ tn i s'.heap ∧ (∀ b ∈ fp, H' b = none) ∧ Wn i n H') ?_ m0 ⟨0, H3, I4, st4, nfp, w0⟩
    rintro n s5 ⟨i, H5, I5, st5, n5, w5⟩
    rcases turn i n H5 w5 with ⟨stop, qq⟩ | ⟨go, Nx, hNx, step⟩
    · have td := T.done (X.blk s3 H3 scope ce fp) rfl rfl rfl hc i [] s5 _ H5 (fun _ _ => False) I5 (stat I5 n5) st5 stop
      refine thnF td fun r s6 ⟨hr, I6⟩ => ?_
      subst hr
      -- back in the def's context
      have I7 : Inv X pins σ H5 s6 := I3.call' (ch := fp) I6.os I6.base I6.hok I6.bare fun b hb => ⟨(f3 b hb).1.2.2.2.1, (f3 b hb).1.2.1, (f3 b hb).1.2.2.2.2.1, (f3 b hb).1.2.2.2.2.2⟩
      have nC : H5 s3.heap.objs.size = none := by
        have z : H5 ce.locals = none := I6.free
        rw [cL] at z
        exact z
      obtain ⟨m, hn, _⟩ := I6.loc
      have hn : s6.heap.Ns ce.locals m := hn
      rw [cL] at hn
      exact hRR D s6 m H5 I7 qq hn (I3.fpOk (Nat.le_refl _) nC)
    · have ti := T.item (X.blk s3 H3 scope ce fp) rfl rfl rfl hc i [] s5 _ H5 (fun _ _ => False) I5 (stat I5 n5) st5 go
      refine thnF ti fun r s6 ⟨u, hr, h6⟩ => ?_
      subst hr
      refine thnF h6 fun _ s7 ⟨x, H7, I7, r7, y7, st7, n7⟩ => ?_
      have I7' := I7.pinned (stat I7 n7) (T.obj _ _ st7)
      refine thnF (pg.run _ s7 _ H7 x u _ I7' r7 (step x H7 y7)) fun _ s8 ⟨σ8, H8, I8, hw8, q8⟩ => ?_
      refine thnF (pt.run _ s8 σ8 H8 _ I8 q8) fun b s9 ⟨H9, I9, q9⟩ => ?_
      -- the turn's end
      have fin : ∀ {s' : Shared} {H' : Hp}, Inv (X.blk s3 H3 scope ce fp) ([] ++ pinsAt fp s7.heap) σ8 H' s' → Nx H' → ∃ m, m < n ∧ ∃ i H', Inv (X.blk s3 H3 scope ce fp) [] (wipe σ (own.map (·.2))) H' s' ∧ tn i s'.heap ∧ (∀ b ∈ fp, H' b = none) ∧ Wn i m H' := fun {s' H'} I' nx => by
        obtain ⟨m', hm, w'⟩ := hNx H' nx
        have pin' : ∀ b ∈ fp, ∀ o, s7.heap.get? b = some o → s'.heap.get? b = some o ∧ H' b = none := fun b hb o e =>
          let z := I'.pin (b, o) (List.mem_append_right _ (List.mem_append_right _ (mem_pinsAt hb e)))
          ⟨z.1, z.2.1⟩
        have hl : (wipe σ (own.map (·.2))).length = σ8.length := by rw [← hw8, wipe_length]
        refine ⟨m', hm, i + 1, H', (I'.unpinned (pins := [])).weak hl (fun j v e => ?_), T.keep _ _ _ st7 fun b hb o e => (pin' b hb o e).1, fun b hb => ?_, w'⟩
        · rw [← hw8] at e
          exact (wipe_some e).1
        · obtain ⟨o, e, _⟩ := T.obj _ _ st7 b hb
          exact (pin' b hb o e).2
      cases b with
      | false =>
        simp only [Bool.false_eq_true, if_false] at q9 ⊢
        exact fin I9 q9
      | true =>
        simp only [if_true] at q9 ⊢
        refine wpAny_mono (pe.run _ s9 σ8 H9 _ (invXe I9 _) q9) (fun z s10 ⟨yv, H10, I10, r10, acc, hD10, hz10, nx⟩ => ?_) fun e s' x => ?_
        · exact app_ok (X := X.blk s3 H3 scope ce fp) (invXeB (X := X.blk s3 H3 scope ce fp) I10) hD10 hz10 r10 fun s11 I11 => fin I11 nx
        · exact xb_leaves hs1 hf1 tk I3 cF cL f3 x
  exact codeAny_compStart_list loop (T.self X.A 0 _ _ _ st4 loop)
/-- name = [..] on one line, the name a local, the element may raise -/
theorem ps_setLcX {X : Cx} {W : WX} {i : Nat} {y : Str} {py : Pos} {elt tg iter : Expr} {ifs : List Expr} {scope : Scope} {own : List (Str × Nat)} {pos spos : Pos} {wi : TI} {g : TG} {tt : TT} {te : WX → TE}
    (hs1 : X.stack = X.env :: X.outer) (hf1 : X.env.frame = some X.env.locals) (tk : Takes X W) (hc : X.calm = true) (hN : X.N.Nodup) (hy : X.N[i]? = some y) (hyl : X.env.scope.names.lookup y = some .local)
    (hsw : swapsWith (.ListComp elt [⟨tg, iter, ifs, 0⟩] scope pos) (some (.Name y py)) spos.line X.env = pure true) (hi : PI X tg iter wi) (ok : BlkOk X.N X.env.scope scope own)
    (hg : ∀ (s : Shared) (H : Hp) (C : Addr) (cl : List (Str × Addr)) (fp : List Addr), PG (X.blk s H scope (compEnvC scope cl C X.env) fp) tg g) (ht : ∀ (s : Shared) (H : Hp) (C : Addr) (cl : List (Str × Addr)) (fp : List Addr), PTs (X.blk s H scope (compEnvC scope cl C X.env) fp) ifs tt)
    (he : ∀ (W : WX) (s : Shared) (H : Hp) (C : Addr) (cl : List (Str × Addr)) (fp : List Addr), PE (blkX X W s H scope (compEnvC scope cl C X.env) fp) elt (te W)) (hs : ∀ x, foldedSetIterable iter X.env x = pure x := by intro _; rfl) :
    PS X (.Assign [.Name y py] (.ListComp elt [⟨tg, iter, ifs, 0⟩] scope pos) spos) (tAsg (tLcX wi g tt te (own.map (·.2)) W) (gName i)) := by
  refine ⟨fun pins s σ H D I h => ?_⟩
  rw [exec_Assign_Name_used _ _ _ _ hsw]
  refine wpAny_bind (wpAny_standAt (wpAny_bind ?_))
  show wpAny _ X.A (do let _ ← comprehension (.ListComp elt [⟨tg, iter, ifs, 0⟩] scope pos) scope X.env (firstIterPos [⟨tg, iter, ifs, 0⟩] pos) (newList []) false (eval iter X.env) (some (assign (.Name y py) X.env))) _ _ s
  have h : tLcX wi g tt te (own.map (·.2)) W σ H (fun x H1 => gName i x σ H1 D.nx) := h
  refine wpAny_bind (thn (lc_coreX (Qf := fun _ s' => SP X pins D .next s') hs1 hf1 tk hc hN I hi ok hg ht he hs h fun L C s' m H' cl I' q hn f => ?_) fun _ s' hq => wpAny_pure (wpAny_pure hq))
  show wpAny _ _ (assign (.Name y py) X.env (.ref L)) _ _ _
  refine wpAny_assign_Name (store_ok2 (v := V.ref L) I' hN hy (.inl hyl) rfl (fun s2 I2 ⟨a, sb, ha⟩ => ?_) (.inr hyl))
  obtain ⟨f0, f1, f2, f3, f4, f5⟩ := f
  have haC : C ≠ a := by
    rcases ha with z | z
    · rw [z]; exact f1
    · exact fun e => f4 y a z e.symm
  refine ⟨m, hn.sameBut sb haC, fun h3 sb3 => ?_⟩
  exact ⟨_, H', I2.turned (t' := s2.toks) (fun b o hb e => (sb3.2 b hb).trans e) f0 f1 f3 f4 f5, q⟩
/-- a call of a def that may raise, as the element of such a comprehension -/
theorem pe_fnXB {X : Cx} {W : WX} {s : Shared} {H : Hp} {scope : Scope} {cenv : Env} {fp : List Addr} {k : Nat} {ps : List Str} {sp : Sp} {x : Str} {p pos : Pos} {e : Expr} {es : List Expr} {t : TA} (F : FnX X.prog X.w X.K X.mg X.base x k ps sp) (hr : Room k X.A) (ha : PA (blkX X W s H scope cenv fp) (e :: es) t) (hg : Gl (blkX X W s H scope cenv fp) x := by rfl)
    (hdb : (x == ("__debug__" : Str)) = false := by decide) (he : starEach (e :: es) cenv = (false, eval e cenv) :: starEach es cenv := by rfl) (hpl : (backTo pos (starEach es cenv)).any (·.1) = false := by rfl) :
    PE (blkX X W s H scope cenv fp) (.Call (.Name x p) (e :: es) [] pos) (tCallS sp (WE W) t) := by
  obtain ⟨f, fd, F1, g, kp, b⟩ := F.ex
  exact pe_callS (X := blkX X W s H scope cenv fp) F1 hr hg g kp b (fun σ => blk_pass σ) ha hdb he hpl
end Px
set_option Elab.async false
set_option linter.all false
set_option maxRecDepth 100000
set_option maxHeartbeats 4000000
namespace Px
open PySem L2 MA TX TL
local macro_rules | `(tactic| bv_omega) => `(tactic| first | assumption | omega | exact cm (by omega) | exact cd (by omega) | exact cp (by omega) | exact trivial)
local macro_rules | `(tactic| array_get_dec) => `(tactic| first
  | assumption
  | exact sq_up
  | exact Own.sqi (by assumption) 0 (by rfl)
  | exact Own.sqi (by assumption) 1 (by rfl)
  | exact Own.sqi (by assumption) 2 (by rfl)
  | exact Own.sqi (by assumption) 3 (by rfl)
  | exact Own.sqi (by assumption) 4 (by rfl)
  | exact Own.sq (by assumption) (by assumption)
  | exact sq_new (by assumption) (by assumption))
local macro_rules | `(tactic| clean_wf) => `(tactic| first
  | with_reducible exact ev_c
  | (with_reducible apply ev_v') <;> rfl
  | (with_reducible apply ev_add) <;> clean_wf
  | (with_reducible apply ev_sub) <;> clean_wf
  | (with_reducible apply ev_mul) <;> clean_wf
  | (with_reducible apply ev_mod) <;> clean_wf
  | (with_reducible apply ev_div) <;> clean_wf
  | (with_reducible apply ev_pow) <;> clean_wf
  | (with_reducible apply ev_neg) <;> clean_wf
  | (with_reducible apply ev_lt) <;> clean_wf
  | (with_reducible apply ev_le) <;> clean_wf
  | (with_reducible apply ev_gt) <;> clean_wf
  | (with_reducible apply ev_ge) <;> clean_wf
  | (with_reducible apply ev_eqi) <;> clean_wf
  | (with_reducible apply ev_nei) <;> clean_wf
  | (with_reducible apply ev_len) <;> clean_wf
  | (with_reducible apply ev_ixL) <;> clean_wf
  | (with_reducible apply ev_min) <;> clean_wf
  | (with_reducible apply ev_max) <;> clean_wf
  | (with_reducible apply ev_abs) <;> clean_wf
  | (with_reducible apply ev_intB) <;> clean_wf
  | (with_reducible apply ea_1) <;> clean_wf
  | (with_reducible apply ea_2) <;> clean_wf
  | (with_reducible apply ea_3) <;> clean_wf
  | with_reducible exact ea_nil
  | (with_reducible apply ea_cons) <;> clean_wf
  | with_reducible exact el_nil
  | (with_reducible apply ep_lt) <;> clean_wf
  | (with_reducible apply ep_le) <;> clean_wf
  | (with_reducible apply ep_gt) <;> clean_wf
  | (with_reducible apply ep_ge) <;> clean_wf
  | (with_reducible apply ep_eqi) <;> clean_wf
  | (with_reducible apply ep_nei) <;> clean_wf
  | (with_reducible apply ep_not) <;> clean_wf
  | ((with_reducible apply ep_and) <;> first | (intro _; clean_wf; done) | clean_wf)
  | ((with_reducible apply ep_or) <;> first | (intro _; clean_wf; done) | clean_wf)
  | (with_reducible apply et_t) <;> clean_wf
  | (with_reducible apply eo_is) <;> clean_wf
  | with_reducible exact eo_no
  | array_get_dec
  | bv_omega
  | rfl
  | skip)
local macro_rules | `(tactic| symm_saturate) => `(tactic| first
  | ((with_reducible apply q_set); (focus (clean_wf; done)))
  | ((with_reducible apply s_set); (focus (clean_wf; done)))
  | ((with_reducible apply q_aug (hx := rfl)); (focus (clean_wf; done)))
  | ((with_reducible apply s_aug (hx := rfl)); (focus (clean_wf; done)))
  | ((with_reducible apply q_augC (hx := rfl)); (focus (clean_wf; done)))
  | ((with_reducible apply s_augC (hx := rfl)); (focus (clean_wf; done))))
local macro_rules | `(tactic| subst_eqs) => `(tactic| repeat' (first
  | with_reducible apply w_c
  | ((with_reducible apply w_v'); (focus rfl))
  | with_reducible apply w_op
  | with_reducible apply w_cb
  | with_reducible apply w_cons
  | with_reducible apply w_nil
  | with_reducible apply r_add
  | with_reducible apply r_sub
  | ((with_reducible apply r_mul); (focus (bv_omega; done)))
  | ((with_reducible apply r_div); (focus (bv_omega; done)))
  | ((with_reducible apply r_mod); (focus (bv_omega; done)))
  | ((with_reducible apply r_pow); (focus (bv_omega; done)))
  | with_reducible apply r_lt
  | with_reducible apply r_le
  | with_reducible apply r_gt
  | with_reducible apply r_ge
  | with_reducible apply r_min
  | with_reducible apply r_max
  | with_reducible apply r_intB
  | ((with_reducible apply r_len); (focus (array_get_dec; done)))
  | with_reducible apply w_callW
  | with_reducible apply q_setW
  | with_reducible apply s_setW
  | with_reducible apply s_retW))

theorem w_lcXW {K : PySem.W.Frag} {σ : L2.St} {H : Hp} {tl : TE} {te : WX → TE} {g : TG} {tt : TT} {vs : List Nat} {W : WX} {Q : VK} (h : tl σ H fun x H1 => ∃ a, x = .ref a ∧ (∃ xs, SqL K H1 a xs) ∧ LcAt (Itl K a) g tt (te fun cls d _ H' => W cls d σ H') vs σ Q H1) : tLcX (iList K tl) g tt te vs W σ H Q := h
/-! ### the parts of a text -/
def sp_read_parts (K : PySem.W.Frag) : Sp := fun vs H Q E => Nod H ∧ ∃ (x : Str), vs = [.str x] ∧ x.length ≤ 100000 ∧ (∀ qs, Rds x qs → NewP H qs Q) ∧ ((∀ qs, ¬ Rds x qs) → ∀ H', Ex H H' → Nod H' → E (.ref (He.ga K "NoText")) none H')
/-- slots: text parts place word -/
abbrev n_read_parts : List Str := ["text", "parts", "place", "word"]
def t_read_parts (K : PySem.W.Frag) (E : XK) : TS := (sFg (tSeq (tIfS (tTest (tOp rEq (tVar 0) (tC (.str (PySem.Str.ofString "1"))))) (tRet (tLst tNil)) tNext)
  (tSeq (tAsg (tLcX (iList K (tM1 rSplit (tVar 0) (tC (.str (PySem.Str.ofString " "))))) (gName 3) tYes (fun W => (tCallS (sp_read_part K) (WE W) (tCons (tVar 3) tNil))) [3] (fun cls d _ H => E cls d H)) (gName 1))
  (tSeq (tFor (iRng2 (tCons (tC (.int 1)) (tCons (tCB (cLen K) (tCons (tVar 1) tNil)) tNil))) (gName 2) (tIfS (tTest (tOp oLe (tOp (rIxT K) (tOp (rIxL K) (tVar 1) (tVar 2)) (tC (.int 0))) (tOp (rIxT K) (tOp (rIxL K) (tVar 1) (tOp oSub (tVar 2) (tC (.int 1)))) (tC (.int 0))))) (tRaise (He.ga K "NoText") (fun cls d _ H => E cls d H)) tNext))
  (tRet (tVar 1))))))
theorem r_read_parts {K : PySem.W.Frag} {vs : List V} {H : Hp} {Q : VK} {E : XK} (h : sp_read_parts K vs H Q E) : t_read_parts K E { nx := fun _ H' => Q .non H', rt := Q } (start n_read_parts vs) H := by
  obtain ⟨nd, x, rfl, hx, q, r⟩ := h
  refine fg_body (q_when (b := decide (x = Str.ofString "1")) (et_t (ev_eqS (ev_v 0) ev_c)) (fun z => ?_) fun z => ?_)
  · have hx1 : x = Str.ofString "1" := of_decide_eq_true z
    exact s_retW (el_nil _ fun p hp => (q [] ⟨.inl ⟨hx1, rfl⟩, List.Pairwise.nil⟩).fg (ex_new hp) (Prs.nil upd_same) hp fun b hb => (List.not_mem_nil hb).elim)
  have hx1 : x ≠ Str.ofString "1" := of_decide_eq_false z
  refine q_setW (w_lcXW (w_split (ev_v 0) ev_c (by decide +kernel) (szc (by omega)) fun p hp => ⟨p, rfl, ⟨_, sq_up⟩, ?_⟩))
  have o : Own H [(p, (Txt.split x B).map V.str)] (upd H p (.lst ((Txt.split x B).map V.str))) := Own.nil.new hp
  have hwl : ∀ w ∈ Txt.split x B, w.length ≤ 100000 := fun w hw => Nat.le_trans (split_le tlB kB hw) hx
  have hsl : (Txt.split x B).length ≤ x.length + 2 := PyProof.Rows.split_le x B
  have hs0 : Txt.split x B ≠ [] := split_ne tlB kB
  have rd : ∀ qs, Rds x qs → (Txt.split x B).map part? = qs.map some := fun qs z => by
    rcases z.or with ⟨y, _⟩ | ⟨_, y⟩
    · exact absurd y hx1
    · exact y
  have rd2 : ∀ qs, (Txt.split x B).map part? = qs.map some → Rise qs → Rds x qs := fun qs z y => ⟨.inr ⟨hx1, z⟩, y⟩
  change (Txt.split x B).length ≤ x.length + 2 at hsl
  generalize Txt.split x B = ws at *
  refine lcat_list (K := K) (xs := ws.map V.str) (fun D j H' => ∃ (B' : Hp) (as : List Addr) (qs : List (Int × Int)), (ws.take j).map part? = qs.map some ∧ PrB H B' as qs ∧ Own B' [(D, as.map V.ref), (p, ws.map V.str)] H')
    (fun D hD => ⟨_, [], [], by simp, ⟨ex_refl, rfl, (fun _ h => (List.not_mem_nil h).elim), fun i b q h => by simp at h⟩, o.new hD⟩) (fun D j H' hD hv => ?_) (fun D j v H' hD hj hI => ?_) fun D H' hD hI => ?_
  · obtain ⟨_, _, _, _, _, o⟩ := hv
    exact o.sqi 1 rfl
  · clear o
    obtain ⟨B', as, qs, e1, c1, o⟩ := hI
    rw [List.getElem?_map] at hj
    cases ew : ws[j]? with
    | none => rw [ew] at hj; cases hj
    | some w =>
      rw [ew] at hj
      cases hj
      have hlt := (List.getElem?_eq_some_iff.mp ew).1
      refine ⟨rfl, et_yes _ (iteT (ea_1 (ev_v 3) _ ⟨o.nod, w, rfl, hwl w (List.mem_of_getElem? ew), fun z t hz ht => ?_, fun hn H2 e2 n2 => ?_⟩))⟩
      · have o2 := o.tupB (xs := pvals z) ht
        have htB : B' t = none := ex_none o.ex ht
        refine ⟨_, o2.atI 0 rfl, ?_, upd B' t (.tup (pvals z)), as ++ [t], qs ++ [z], ?_, c1.snoc htB, ?_⟩
        · have := congrArg List.length e1
          rw [List.length_map, List.length_map, List.length_take] at this
          rw [List.length_map, c1.len]
          exact szl (by omega)
        · rw [List.take_add_one, ew, List.map_append, List.map_append, e1]
          show _ ++ [part? w] = _
          rw [hz]; rfl
        · rw [show as.map V.ref ++ [V.ref t] = (as ++ [t]).map V.ref by simp]
          exact o2.mut 0 rfl
      · refine r (fun qs' hq => ?_) H2 (ex_trans c1.ex (ex_trans o.ex e2)) n2
        have e3 : (ws.map part?)[j]? = (qs'.map some)[j]? := by rw [rd qs' hq]
        rw [List.getElem?_map, List.getElem?_map, ew] at e3
        cases e4 : qs'[j]? with
        | none => rw [e4] at e3; cases e3
        | some z =>
          rw [e4] at e3
          have e5 : part? w = some z := Option.some.inj e3
          rw [hn] at e5
          cases e5
  · obtain ⟨B', as, qs, e1, c1, o⟩ := hI
    rw [List.length_map, List.take_length] at e1
    have hql : ws.length = qs.length := by
      have := congrArg List.length e1
      rwa [List.length_map, List.length_map] at this
    have pr := c1.prs o.ex (o.atI 0 rfl)
    have hw0 : 0 < ws.length := List.length_pos_iff.mpr hs0
    have hal : as.length = qs.length := c1.len
    refine q_forR2 (lo := 1) (k := (qs.length : Int)) (ea_2 ev_c (ev_eq (ev_len (ev_v 1) (o.sqi 0 rfl)) (by rw [List.length_map, hal]))) (by omega) (fun j σ' H2 => ∃ y2, σ' = [some (.str x), some (.ref D), y2, none] ∧ H2 = H' ∧ ∀ i a b, i < j → qs[i]? = some a → qs[i + 1]? = some b → a.1 < b.1) ⟨none, rfl, rfl, fun i a b h => absurd h (by omega)⟩ (fun j σ' H2 hj hI => ?_) fun σ' H2 hI => ?_
    · obtain ⟨y2, rfl, rfl, hI⟩ := hI
      have hj2 : j + 1 < qs.length := by omega
      have ge : ∀ i (h : i < qs.length), ∃ t, atI (as.map V.ref) (i : Int) = some (.ref t) ∧ H2 t = some (.tup (pvals qs[i])) := fun i h => by
        have ha : i < as.length := by omega
        refine ⟨as[i], ?_, pr.tup i as[i] qs[i] (List.getElem?_eq_getElem ha) (List.getElem?_eq_getElem h)⟩
        exact atI_nat (by rw [List.getElem?_map, List.getElem?_eq_getElem ha]; rfl)
      obtain ⟨t1, g1, f1⟩ := ge (j + 1) hj2
      obtain ⟨t0, g0, f0⟩ := ge j (by omega)
      refine s_whenP (ep_le (i := qs[j + 1].1) (j := qs[j].1) (ev_ixT (ev_ixL (v := .ref t1) (ev_v 1) (ev_v 2) (o.sqi 0 rfl) (by rw [show (1 : Int) + (j : Int) = ((j + 1 : Nat) : Int) by omega]; exact g1)) ev_c (st_at f1) rfl) (ev_ixT (ev_ixL (v := .ref t0) (ev_v 1) (ev_sub (i := 1 + (j : Int)) (ev_v 2) ev_c) (o.sqi 0 rfl) (by rw [show (1 : Int) + (j : Int) - 1 = (j : Int) by omega]; exact g0)) ev_c (st_at f0) rfl)) (fun hc => ?_) fun hc => ?_
      · refine r (fun qs' hq => ?_) H2 (ex_trans c1.ex o.ex) o.nod
        have e5 : qs' = qs := by
          have := rd qs' hq
          rw [e1] at this
          have := congrArg (fun l => l.filterMap id) this
          simpa [List.filterMap_map] using this.symm
        subst e5
        have := hq.ris.adj (List.getElem?_eq_getElem (show j < qs'.length by omega)) (List.getElem?_eq_getElem hj2)
        omega
      · refine ⟨_, rfl, rfl, fun i a b hi h1 h2 => ?_⟩
        rcases Nat.lt_succ_iff_lt_or_eq.mp hi with hi | rfl
        · exact hI i a b hi h1 h2
        · rw [List.getElem?_eq_getElem (by omega)] at h1
          rw [List.getElem?_eq_getElem hj2] at h2
          cases h1; cases h2
          omega
    · obtain ⟨y2, rfl, rfl, hI⟩ := hI
      refine s_ret (ev_v 1) (c1.ret o 0 rfl (q qs (rd2 qs e1 (ris_adj fun i a b h1 h2 => hI i a b ?_ h1 h2))))
      have := (List.getElem?_eq_some_iff.mp h2).1
      omega
end Px
set_option Elab.async false
set_option linter.all false
set_option maxRecDepth 100000
set_option maxHeartbeats 4000000
namespace Px
open PySem L2
/-! ### isinstance of the five -/
theorem xs_no {K : PySem.W.Frag} {x y : Str} (h : ErrAt K x) (hy : y ∈ five) (hne : x ≠ y) : PySem.W.kitOne K (.ref (He.ga K x)) (.ref (He.ga K y)) = some false := by rw [h.kit y hy, decide_eq_false hne]
theorem xs_yes {K : PySem.W.Frag} {x : Str} (h : ErrAt K x) (hx : x ∈ five) : PySem.W.kitOne K (.ref (He.ga K x)) (.ref (He.ga K x)) = some true := by rw [h.kit x hx, decide_eq_true rfl]
theorem ev_isX5 {K : PySem.W.Frag} {σ : L2.St} {H : Hp} {ta tb : TE} {a D : Addr} {c : V} {u : Value} {b : Bool} (ha : Ev ta σ H (.ref a)) (hb : Ev tb σ H c) (hH : H a = some (excH a D)) (hD : ExcC K D) (k : ClsV c u) (e : PySem.W.kitOne K (.ref D) u = some b) : Ev (tCB (rIsX K) (tCons ta (tCons tb tNil))) σ H (.bl b) := ev_cb (ea_2 ha hb) fun _ q => ⟨a, D, c, u, b, rfl, hH, hD, k, e, q⟩
theorem ev_isXe {K : PySem.W.Frag} {σ : L2.St} {H : Hp} {ta : TE} {a : Addr} {x y : Str} (h : ErrAt K x) (hy : y ∈ five) (ha : Ev ta σ H (.ref a)) (hH : H a = some (excH a (He.ga K x))) : Ev (tCB (rIsX K) (tCons ta (tCons (tC (.ref (He.ga K y))) tNil))) σ H (.bl (decide (x = y))) := ev_isX5 ha ev_c hH h.ec (.own _) (h.kit y hy)
theorem ev_isXv {K : PySem.W.Frag} {σ : L2.St} {H : Hp} {ta : TE} {a : Addr} {x : Str} (h : ErrAt K x) (ha : Ev ta σ H (.ref a)) (hH : H a = some (excH a (He.ga K x))) : Ev (tCB (rIsX K) (tCons ta (tCons (tC (.ty "ValueError")) tNil))) σ H (.bl true) := ev_isX5 ha ev_c hH h.ec (.ty _) h.val
theorem w_tupXs {σ : L2.St} {H : Hp} {t : TA} {Q : VK} (h : t σ H fun xs H1 => xs.length ≤ sizeLine ∧ ∀ p, H1 p = none → Q (.ref p) (upd H1 p (.tup xs))) : tTup t σ H Q := h
/-- isinstance(e, (four others)) -/
theorem w_isX5 {K : PySem.W.Frag} {σ : L2.St} {H : Hp} {ta : TE} {a : Addr} {x y1 y2 y3 y4 : Str} {Q : VK} (hx : ErrAt K x) (ha : Ev ta σ H (.ref a)) (hH : H a = some (excH a (He.ga K x))) (h1 : y1 ∈ five ∧ x ≠ y1) (h2 : y2 ∈ five ∧ x ≠ y2) (h3 : y3 ∈ five ∧ x ≠ y3) (h4 : y4 ∈ five ∧ x ≠ y4)
    (q : ∀ tp, H tp = none → Q (.bl false) (upd H tp (.tup [.ref (He.ga K y1), .ref (He.ga K y2), .ref (He.ga K y3), .ref (He.ga K y4)]))) :
    tCB (rIsXT K) (tCons ta (tCons (tTup (tCons (tC (.ref (He.ga K y1))) (tCons (tC (.ref (He.ga K y2))) (tCons (tC (.ref (He.ga K y3))) (tCons (tC (.ref (He.ga K y4))) tNil))))) tNil)) σ H Q := by
  refine w_cb (w_cons (w_ev ha (w_one (w_tupXs (ea_cons ev_c (ea_3 ev_c ev_c ev_c) _ ⟨by show 4 ≤ sizeLine; decide, fun tp htp => ?_⟩)))))
  refine ⟨a, _, tp, _, _, false, rfl, by rw [upd_ne (ne_of_none hH htp)]; exact hH, hx.ec, upd_same, .cons (.own _) (.cons (.own _) (.cons (.own _) (.cons (.own _) .nil))), ?_, q tp htp⟩
  exact kitAny_cons (xs_no hx h1.1 h1.2) (fun _ => kitAny_cons (xs_no hx h2.1 h2.2) (fun _ => kitAny_cons (xs_no hx h3.1 h3.2) (fun _ => kitAny_cons (xs_no hx h4.1 h4.2) (fun _ => kitAny_nil) fun z => nomatch z) fun z => nomatch z) fun z => nomatch z) fun z => nomatch z
end Px
set_option Elab.async false
set_option linter.all false
set_option maxRecDepth 100000
set_option maxHeartbeats 4000000
namespace Px
open PySem L2 MA TX TL
local macro_rules | `(tactic| bv_omega) => `(tactic| first | assumption | omega | exact cm (by omega) | exact cd (by omega) | exact cp (by omega) | exact trivial)
local macro_rules | `(tactic| array_get_dec) => `(tactic| first
  | assumption
  | exact sq_up
  | exact Own.sqi (by assumption) 0 (by rfl)
  | exact Own.sqi (by assumption) 1 (by rfl)
  | exact Own.sqi (by assumption) 2 (by rfl)
  | exact Own.sqi (by assumption) 3 (by rfl)
  | exact Own.sqi (by assumption) 4 (by rfl)
  | exact Own.sq (by assumption) (by assumption)
  | exact sq_new (by assumption) (by assumption))
local macro_rules | `(tactic| clean_wf) => `(tactic| first
  | with_reducible exact ev_c
  | (with_reducible apply ev_v') <;> rfl
  | (with_reducible apply ev_add) <;> clean_wf
  | (with_reducible apply ev_sub) <;> clean_wf
  | (with_reducible apply ev_mul) <;> clean_wf
  | (with_reducible apply ev_mod) <;> clean_wf
  | (with_reducible apply ev_div) <;> clean_wf
  | (with_reducible apply ev_pow) <;> clean_wf
  | (with_reducible apply ev_neg) <;> clean_wf
  | (with_reducible apply ev_lt) <;> clean_wf
  | (with_reducible apply ev_le) <;> clean_wf
  | (with_reducible apply ev_gt) <;> clean_wf
  | (with_reducible apply ev_ge) <;> clean_wf
  | (with_reducible apply ev_eqi) <;> clean_wf
  | (with_reducible apply ev_nei) <;> clean_wf
  | (with_reducible apply ev_len) <;> clean_wf
  | (with_reducible apply ev_ixL) <;> clean_wf
  | (with_reducible apply ev_min) <;> clean_wf
  | (with_reducible apply ev_max) <;> clean_wf
  | (with_reducible apply ev_abs) <;> clean_wf
  | (with_reducible apply ev_intB) <;> clean_wf
  | (with_reducible apply ea_1) <;> clean_wf
  | (with_reducible apply ea_2) <;> clean_wf
  | (with_reducible apply ea_3) <;> clean_wf
  | with_reducible exact ea_nil
  | (with_reducible apply ea_cons) <;> clean_wf
  | with_reducible exact el_nil
  | (with_reducible apply ep_lt) <;> clean_wf
  | (with_reducible apply ep_le) <;> clean_wf
  | (with_reducible apply ep_gt) <;> clean_wf
  | (with_reducible apply ep_ge) <;> clean_wf
  | (with_reducible apply ep_eqi) <;> clean_wf
  | (with_reducible apply ep_nei) <;> clean_wf
  | (with_reducible apply ep_not) <;> clean_wf
  | ((with_reducible apply ep_and) <;> first | (intro _; clean_wf; done) | clean_wf)
  | ((with_reducible apply ep_or) <;> first | (intro _; clean_wf; done) | clean_wf)
  | (with_reducible apply et_t) <;> clean_wf
  | (with_reducible apply eo_is) <;> clean_wf
  | with_reducible exact eo_no
  | array_get_dec
  | bv_omega
  | rfl
  | skip)
local macro_rules | `(tactic| symm_saturate) => `(tactic| first
  | ((with_reducible apply q_set); (focus (clean_wf; done)))
  | ((with_reducible apply s_set); (focus (clean_wf; done)))
  | ((with_reducible apply q_aug (hx := rfl)); (focus (clean_wf; done)))
  | ((with_reducible apply s_aug (hx := rfl)); (focus (clean_wf; done)))
  | ((with_reducible apply q_augC (hx := rfl)); (focus (clean_wf; done)))
  | ((with_reducible apply s_augC (hx := rfl)); (focus (clean_wf; done))))
local macro_rules | `(tactic| subst_eqs) => `(tactic| repeat' (first
  | with_reducible apply w_c
  | ((with_reducible apply w_v'); (focus rfl))
  | with_reducible apply w_op
  | with_reducible apply w_cb
  | with_reducible apply w_cons
  | with_reducible apply w_nil
  | with_reducible apply r_add
  | with_reducible apply r_sub
  | ((with_reducible apply r_mul); (focus (bv_omega; done)))
  | ((with_reducible apply r_div); (focus (bv_omega; done)))
  | ((with_reducible apply r_mod); (focus (bv_omega; done)))
  | ((with_reducible apply r_pow); (focus (bv_omega; done)))
  | with_reducible apply r_lt
  | with_reducible apply r_le
  | with_reducible apply r_gt
  | with_reducible apply r_ge
  | with_reducible apply r_min
  | with_reducible apply r_max
  | with_reducible apply r_intB
  | ((with_reducible apply r_len); (focus (array_get_dec; done)))
  | with_reducible apply w_callW
  | with_reducible apply q_setW
  | with_reducible apply s_setW
  | with_reducible apply s_retW))

/-! ### a number, looked at by the law -/
def sp_law_number_in (K : PySem.W.Frag) : Sp := fun vs H Q _ => Nod H ∧ ∃ (w : Str) (m : Nat), vs = [.str w, .int (m : Int)] ∧ w.length ≤ 100000 ∧ m ≤ 600 ∧ Q (.int (((num? m w).getD 0 : Nat) : Int)) H
/-- slots: word most figure -/
abbrev n_law_number_in : List Str := ["word", "most", "figure"]
def t_law_number_in (K : PySem.W.Frag) : TS := (sFg (tSeq (tIfS (tOr (tNot (tTest (tChain oLe oLe (tC (.int 1)) (tCB cLenS (tCons (tVar 0) tNil)) (tVar 1)))) (tTest (tOp rEq (tOp rIxS (tVar 0) (tC (.int 0))) (tC (.str (PySem.Str.ofString "0")))))) (tRet (tC (.int 0))) tNext)
  (tRet (tIf (tB (tCB (rAll K) (tCons (tLc (iStr (tVar 0)) (gName 2) tYes (tOp rInS (tVar 2) (tC (.str (PySem.Str.ofString "0123456789")))) [2]) tNil))) (tCB cIntS (tCons (tVar 0) tNil)) (tC (.int 0))))))
theorem r_law_number_in {K : PySem.W.Frag} {vs : List V} {H : Hp} {Q : VK} {E : XK} (h : sp_law_number_in K vs H Q E) : t_law_number_in K { nx := fun _ H' => Q .non H', rt := Q } (start n_law_number_in vs) H := by
  obtain ⟨nd, w, m, rfl, hw, hm, q⟩ := h
  have no : num? m w = none → Q (.int 0) H := fun e => by rw [e] at q; exact q
  have c1 : EvT (tTest (tChain oLe oLe (tC (.int 1)) (tCB cLenS (tCons (tVar 0) tNil)) (tVar 1))) (start n_law_number_in [.str w, .int (m : Int)]) H (decide ((1 : Int) ≤ w.length) && decide ((w.length : Int) ≤ m)) := et_t (ev_chain ev_c (ev_lenS (ev_v 0) (szc (by omega))) rv_0 (fun _ => ev_v 1) fun _ => rv_0)
  by_cases h1 : 1 ≤ w.length ∧ w.length ≤ m
  rotate_left
  · refine fg_body (q_when (b := true) (et_eq (et_or (a := true) (b := true) (et_eq (et_not c1) ?_) (fun z => nomatch z)) rfl) (fun _ => s_ret ev_c ⟨H, fg_same ex_refl, no (if_neg fun z => h1 ⟨z.1, z.2.1⟩)⟩) fun z => nomatch z)
    by_cases g1 : (1 : Int) ≤ w.length
    · have g2 : ¬ (w.length : Int) ≤ m := fun z => h1 ⟨by omega, by omega⟩
      rw [decide_eq_true g1, decide_eq_false g2]; rfl
    · rw [decide_eq_false g1]; rfl
  obtain ⟨c, rest, hc⟩ : ∃ c rest, tl w = c :: rest := by
    cases e : tl w with
    | nil => have := h1.1; rw [len_tl, e] at this; simp at this
    | cons c r => exact ⟨c, r, rfl⟩
  have c2 : EvT (tOr (tNot (tTest (tChain oLe oLe (tC (.int 1)) (tCB cLenS (tCons (tVar 0) tNil)) (tVar 1)))) (tTest (tOp rEq (tOp rIxS (tVar 0) (tC (.int 0))) (tC (.str (PySem.Str.ofString "0")))))) (start n_law_number_in [.str w, .int (m : Int)]) H (decide (c = 48)) :=
    et_eq (et_or (a := false) (b := decide (c = 48)) (et_eq (et_not c1) (by rw [decide_eq_true (by omega), decide_eq_true (by omega)]; rfl)) fun _ => et_eq (et_t (ev_eqS (ev_ixS (c := c) (ev_v 0) ev_c (szc (by omega)) (atI_nat (j := 0) (by rw [hc]; rfl))) ev_c)) (by
      by_cases z : c = 48
      · rw [decide_eq_true z, decide_eq_true (sign0.mpr z)]
      · rw [decide_eq_false z, decide_eq_false (fun y => z (sign0.mp y))])) (by simp)
  refine fg_body (q_when c2 (fun z => s_ret ev_c ⟨H, fg_same ex_refl, no (if_neg fun y => y.2.2.1 (by rw [hc]; have := of_decide_eq_true z; subst this; rfl))⟩) fun z => ?_)
  have h48 : c ≠ 48 := of_decide_eq_false z
  refine s_retW (w_if (w_B (w_cb (w_one (w_lcS (w_v 0 ⟨w, rfl, lcat_str (fun D i H' => H' = upd H D (.lst ((((tl w).take i).map fun c => decide (48 ≤ c ∧ c ≤ 57)).map V.bl))) (fun D hD => rfl) (fun D i d H' hD hd hI => ?_) fun D H' hD hI => ?_⟩))))))
  · subst hI
    refine ⟨rfl, et_yes _ (iteT (ev_eq (ev_inS (c := d) (ev_v 2) ev_c) (y := .bl (decide (48 ≤ d ∧ d ≤ 57))) (by congr 1; exact decide_eq_decide.mpr fig) _ ⟨_, upd_same, ?_, ?_⟩))⟩
    · rw [List.length_map, List.length_map, List.length_take, ← len_tl]
      exact szl (by omega)
    · rw [upd_upd, List.take_add_one, hd, List.map_append, List.map_append]; rfl
  · subst hI
    rw [List.take_length]
    have hne : tl w ≠ [] := by rw [hc]; simp
    refine ⟨D, (tl w).map fun c => decide (48 ≤ c ∧ c ≤ 57), rfl, sq_up, ⟨_, rfl, ?_⟩⟩
    by_cases hd : ∀ c ∈ tl w, 48 ≤ c ∧ c ≤ 57
    · have e : num? m w = some (NumText.digitsVal (tl w)) := if_pos ⟨h1.1, h1.2, by rw [hc]; simpa using h48, hd⟩
      rw [e] at q
      rw [show ((tl w).map fun c => decide (48 ≤ c ∧ c ≤ 57)).all id = true from List.all_eq_true.mpr fun b hb => by
        obtain ⟨c, hc, rfl⟩ := List.mem_map.mp hb
        exact decide_eq_true (hd c hc)]
      exact iteT (w_cb (w_one (w_v 0 ⟨w, _, rfl, intText_digits hd hne (by omega), by omega, H, fg_same (ex_new hD), q⟩)))
    · have e : num? m w = none := if_neg fun y => hd y.2.2.2
      rw [show ((tl w).map fun c => decide (48 ≤ c ∧ c ≤ 57)).all id = false from by
        cases z : ((tl w).map fun c => decide (48 ≤ c ∧ c ≤ 57)).all id with
        | false => rfl
        | true => exact absurd (fun c hc => of_decide_eq_true (List.all_eq_true.mp z _ (List.mem_map.mpr ⟨c, hc, rfl⟩))) hd]
      exact iteF (w_c ⟨H, fg_same (ex_new hD), no e⟩)
/-! ### what is due -/
theorem lp_due {K : PySem.W.Frag} {x : Str} {H0 H1 : Hp} {ws : List Str} {p pf : Addr} {D : Ends} (o : Own H0 [(p, ws.map V.str), (pf, [])] H1) (hw : ∀ w ∈ ws, w.length ≤ 100000) (hl : ws.length ≤ 200000) (hR : ∀ qs, Rds x qs ↔ ws.map part? = qs.map some ∧ Rise qs)
    (hN : ∀ H', Ex H0 H' → (∀ qs, ¬ Rds x qs) → D.rt .non H') (hP : ∀ y2 y3 y4 B' as qs H', PrB H0 B' as qs → Own B' [(pf, as.map V.ref)] H' → Rds x qs → D.nx [some (.str x), some (.ref pf), y2, y3, y4] H') :
    Lp (Itl K p) (gName 2) (tSeq (tAsg (tM1 rSplit (tVar 2) (tC (.str (PySem.Str.ofString "^")))) (gName 3))
  (tSeq (tIfS (tTest (tOp rNe (tCB (cLen K) (tCons (tVar 3) tNil)) (tC (.int 2)))) (tRet (tC .non)) tNext)
  (tSeq (tAsg (tTup (tCons (tCall (sp_law_number_in K) [] E0 (tCons (tOp (rIxL K) (tVar 3) (tC (.int 0))) (tCons (tC (.int 9)) tNil))) (tCons (tCall (sp_law_number_in K) [] E0 (tCons (tOp (rIxL K) (tVar 3) (tC (.int 1))) (tCons (tC (.int 2)) tNil))) tNil))) (gName 4))
  (tSeq (tIfS (tOr (tTest (tOp oLt (tOp (rIxT K) (tVar 4) (tC (.int 0))) (tC (.int 2)))) (tOr (tTest (tOp oLt (tOp (rIxT K) (tVar 4) (tC (.int 1))) (tC (.int 1)))) (tAnd (tTest (tOp (rNeD K) (tVar 1) (tLst tNil))) (tTest (tOp oLe (tOp (rIxT K) (tVar 4) (tC (.int 0))) (tOp (rIxT K) (tOp (rIxL K) (tVar 1) (tUn uNeg (tC (.int 1)))) (tC (.int 0)))))))) (tRet (tC .non)) tNext)
  (tDrop (tBM K "list" rAppend (tVar 1) (tCons (tVar 4) tNil))))))) D [some (.str x), some (.ref pf), none, none, none] H1 := by
  refine lp_list (xs := ws.map V.str) (fun j σ' H' => ∃ (B' : Hp) (as : List Addr) (qs : List (Int × Int)) (y2 y3 y4 : Option V), σ' = [some (.str x), some (.ref pf), y2, y3, y4] ∧ PrB H0 B' as qs ∧ Own B' [(p, ws.map V.str), (pf, as.map V.ref)] H' ∧ (ws.take j).map part? = qs.map some ∧ Rise qs)
    ⟨H0, [], [], none, none, none, rfl, .nil, o, by simp, List.Pairwise.nil⟩ (fun j σ' H' _ hI => by obtain ⟨_, _, _, _, _, _, _, _, o, _⟩ := hI; exact o.sqi 0 rfl) (fun j v σ' H' hj hI => ?_) fun σ' H' hI => ?_
  rotate_left
  · obtain ⟨B', as, qs, y2, y3, y4, rfl, c1, o, e1, hri⟩ := hI
    rw [List.length_map, List.take_length] at e1
    exact hP _ _ _ B' as qs H' c1 (o.sub ((List.Sublist.refl _).cons _)) ((hR qs).mpr ⟨e1, hri⟩)
  clear o
  obtain ⟨B', as, qs, y2, y3, y4, rfl, c1, o, e1, hri⟩ := hI
  rw [List.getElem?_map] at hj
  cases ew : ws[j]? with
  | none => rw [ew] at hj; cases hj
  | some w =>
  rw [ew] at hj
  cases hj
  have hlt := (List.getElem?_eq_some_iff.mp ew).1
  have hwl := hw w (List.mem_of_getElem? ew)
  have hql : qs.length = j := by
    have := congrArg List.length e1
    rw [List.length_map, List.length_map, List.length_take] at this
    omega
  have at_j : ∀ qs', Rds x qs' → ∃ z, part? w = some z ∧ qs'.take (j + 1) = qs ++ [z] := fun qs' h => by
    have e2 := ((hR qs').mp h).1
    have e3 : (ws.map part?)[j]? = (qs'.map some)[j]? := by rw [e2]
    rw [List.getElem?_map, List.getElem?_map, ew] at e3
    cases e4 : qs'[j]? with
    | none => rw [e4] at e3; cases e3
    | some z =>
      rw [e4] at e3
      refine ⟨z, Option.some.inj e3, ?_⟩
      have e5 : (ws.take j).map part? = (qs'.take j).map some := by rw [List.map_take, e2, List.map_take]
      rw [e1] at e5
      have e6 := congrArg (fun l => l.filterMap id) e5
      simp only [List.filterMap_map] at e6
      rw [List.take_add_one, e4]
      have : qs = qs'.take j := by simpa using e6
      rw [← this]; rfl
  have bad : part? w = none → ∀ qs', ¬ Rds x qs' := fun hn qs' h => by
    obtain ⟨z, hz, _⟩ := at_j qs' h
    rw [hn] at hz; cases hz
  refine q_setW (w_split (ev_v 2) ev_c (by decide +kernel) (szc (by omega)) fun ph hph => ?_)
  replace o := o.new (xs := (Txt.split w C).map V.str) hph
  refine q_whenP (ep_nei (ev_len (ev_v 3) (o.sqi 0 rfl)) ev_c) (fun hc => s_ret ev_c (hN _ (ex_trans c1.ex o.ex) (bad (part_len fun z => hc (by rw [List.length_map, z]; rfl))))) fun hc => ?_
  have hl2 : (Txt.split w C).length = 2 := by
    rw [List.length_map] at hc
    omega
  obtain ⟨a, b, hs⟩ : ∃ a b, Txt.split w C = [a, b] := by
    match e : Txt.split w C, hl2 with
    | [a, b], _ => exact ⟨a, b, rfl⟩
  have hla : a.length ≤ 100000 := Nat.le_trans (split_le tlC kC (x := w) (by rw [hs]; simp)) hwl
  have hlb : b.length ≤ 100000 := Nat.le_trans (split_le tlC kC (x := w) (by rw [hs]; simp)) hwl
  have hat0 : atI ((Txt.split w C).map V.str) 0 = some (.str a) := by rw [hs]; rfl
  have hat1 : atI ((Txt.split w C).map V.str) 1 = some (.str b) := by rw [hs]; rfl
  refine q_setW (w_tupW (w_cons (w_callW (w_cons (w_ev (ev_ixL (ev_v 3) ev_c (o.sqi 0 rfl) hat0) (w_one (w_c ⟨o.nod, a, 9, rfl, hla, by omega, ?_⟩)))))))
  refine w_one (w_callW (w_cons (w_ev (ev_ixL (ev_v 3) ev_c (o.sqi 0 rfl) hat1) (w_one (w_c ⟨o.nod, b, 2, rfl, hlb, by omega, ⟨by show 2 ≤ sizeLine; decide, fun t ht => ?_⟩⟩)))))
  have pw : ∀ z, part? w = some z → ∃ n' m' : Nat, num? 9 a = some n' ∧ num? 2 b = some m' ∧ 2 ≤ n' ∧ z = ((n' : Int), (m' : Int)) := fun z hz => by
    obtain ⟨a', b', n, m, f1, f2, f3, f4, f5⟩ := part_some hz
    rw [hs] at f1
    injection f1 with f6 f7
    injection f7 with f7 _
    subst f6; subst f7
    exact ⟨n, m, f2, f3, f4, f5⟩
  have pw2 : ∀ n' m' : Nat, num? 9 a = some n' → num? 2 b = some m' → 2 ≤ n' → part? w = some ((n' : Int), (m' : Int)) := fun n' m' h1 h2 h3 => part_of hs h1 h2 h3
  clear hat0 hat1 hs hl2 hc
  have hn1 : num? 9 a = some ((num? 9 a).getD 0) ∨ (num? 9 a = none ∧ (num? 9 a).getD 0 = 0) := by cases num? 9 a <;> simp
  have hm1 : num? 2 b = some ((num? 2 b).getD 0) ∨ (num? 2 b = none ∧ (num? 2 b).getD 0 = 0) := by cases num? 2 b <;> simp
  generalize (num? 9 a).getD 0 = n at ht hn1 ⊢
  generalize (num? 2 b).getD 0 = m at ht hm1 ⊢
  have o2 := o.tupB (xs := pvals ((n : Int), (m : Int))) ht
  have htB : B' t = none := ex_none o.ex ht
  have c2 := c1.snoc (q := ((n : Int), (m : Int))) htB
  have ht2 := o2.ex t _ upd_same
  have ts0 : ∀ {σ : L2.St}, σ[4]? = some (some (.ref t)) → Ev (tOp (rIxT K) (tVar 4) (tC (.int 0))) σ _ (.int (n : Int)) := fun h => ev_ixT (ev_v' h) ev_c (st_at ht2) rfl
  have ts1 : ∀ {σ : L2.St}, σ[4]? = some (some (.ref t)) → Ev (tOp (rIxT K) (tVar 4) (tC (.int 1))) σ _ (.int (m : Int)) := fun h => ev_ixT (ev_v' h) ev_c (st_at ht2) rfl
  refine q_ifW (w_or (w_evT (b := decide ((n : Int) < 2)) (et_t (ev_lt (i := (n : Int)) (ts0 rfl) ev_c)) ?_))
  by_cases hn2 : (n : Int) < 2
  · rw [decide_eq_true hn2]
    refine iteT (iteT (s_ret ev_c (hN _ (ex_trans c2.ex o2.ex) (bad ?_))))
    cases e : part? w with
    | none => rfl
    | some z =>
      obtain ⟨n', m', f1, f2, f3, f4⟩ := pw z e
      rcases hn1 with h | h
      · rw [f1] at h; cases h; omega
      · rw [f1] at h; cases h.1
  rw [decide_eq_false hn2]
  refine iteF (w_or (w_evT (b := decide ((m : Int) < 1)) (et_t (ev_lt (i := (m : Int)) (ts1 rfl) ev_c)) ?_))
  by_cases hm2 : (m : Int) < 1
  · rw [decide_eq_true hm2]
    refine iteT (iteT (s_ret ev_c (hN _ (ex_trans c2.ex o2.ex) (bad ?_))))
    cases e : part? w with
    | none => rfl
    | some z =>
      obtain ⟨n', m', f1, f2, f3, f4⟩ := pw z e
      rcases hm1 with h | h
      · rw [f2] at h; cases h; have := (num_some f2).2.1; omega
      · rw [f2] at h; cases h.1
  rw [decide_eq_false hm2]
  have hn3 : num? 9 a = some n := by
    rcases hn1 with h | h
    · exact h
    · omega
  have hm3 : num? 2 b = some m := by
    rcases hm1 with h | h
    · exact h
    · omega
  have hpw := pw2 n m hn3 hm3 (by omega)
  have prs := c1.prs (ex_trans (ex_new htB) o2.ex) (o2.atI 2 rfl)
  refine iteF (w_and (w_tst (w_op (w_v 1 (el_nil _ fun pe hpe => rv_neP (prs.ex (ex_new hpe)) (Prs.nil upd_same) _ ⟨_, rfl, ?_⟩)))))
  have o3 := o2.tmp (xs := []) hpe
  have fin : ∀ {N : L2.St → Hp → Prop}, Rise (qs ++ [((n : Int), (m : Int))]) → (∀ σ' H', (∃ (B' : Hp) (as : List Addr) (qs : List (Int × Int)) (y2 y3 y4 : Option V), σ' = [some (.str x), some (.ref pf), y2, y3, y4] ∧ PrB H0 B' as qs ∧ Own B' [(p, ws.map V.str), (pf, as.map V.ref)] H' ∧ (ws.take (j + 1)).map part? = qs.map some ∧ Rise qs) → N σ' H') →
      tDrop (tBM K "list" rAppend (tVar 1) (tCons (tVar 4) tNil)) { D with nx := N, ct := N, bk := D.nx } [some (.str x), some (.ref pf), some (.str w), some (.ref ph), some (.ref t)] _ := fun {N} hri2 hNN => by
    refine s_dropW (w_appR (ev_v 1) (o3.sqi 2 rfl) (w_one (w_v 4 ⟨pf, as.map V.ref, .ref t, rfl, rfl, o3.atI 2 rfl, szl (by rw [List.length_map, c1.len]; omega), ?_⟩)))
    refine hNN _ _ ⟨_, as ++ [t], qs ++ [((n : Int), (m : Int))], _, _, _, rfl, c2, ?_, ?_, hri2⟩
    · rw [show as.map V.ref ++ [V.ref t] = (as ++ [t]).map V.ref by simp]
      exact (o3.mut (ys := (as ++ [t]).map V.ref) 2 rfl).sub ((List.Sublist.refl _).cons _)
    · rw [List.take_add_one, ew, List.map_append, List.map_append, e1]
      show _ ++ [part? w] = _
      rw [hpw]; rfl
  by_cases hq0 : qs = []
  · subst hq0
    rw [decide_eq_true rfl]
    refine iteF (iteF (w_next ?_))
    exact fin (by unfold Rise; simp) fun _ _ h => h
  · rw [decide_eq_false hq0]
    obtain ⟨q0, z0, hqz⟩ : ∃ q0 z0, qs = q0 ++ [z0] := ⟨_, _, (List.dropLast_concat_getLast hq0).symm⟩
    obtain ⟨a0, t0, hat⟩ : ∃ a0 t0, as = a0 ++ [t0] := by
      have : as ≠ [] := fun z => hq0 (List.length_eq_zero_iff.mp (by rw [← c1.len, z]; rfl))
      exact ⟨_, _, (List.dropLast_concat_getLast this).symm⟩
    have hlen0 : a0.length = q0.length := by
      have := c1.len
      rw [hqz, hat, List.length_append, List.length_append] at this
      simpa using this
    have ht0 : B' t0 = some (.tup (pvals z0)) := c1.tup a0.length t0 z0 (by rw [hat]; simp) (by rw [hqz, hlen0]; simp)
    have ht0' := o3.ex t0 _ (ex_new htB _ _ ht0)
    have tsL : Ev (tOp (rIxT K) (tOp (rIxL K) (tVar 1) (tUn uNeg (tC (.int 1)))) (tC (.int 0))) [some (.str x), some (.ref pf), some (.str w), some (.ref ph), some (.ref t)] _ (.int z0.1) :=
      ev_ixT (ev_ixL (v := .ref t0) (i := -1) (ev_v 1) (ev_neg ev_c) (o3.sqi 2 rfl) (by rw [hat, List.map_append]; exact atI_last _ _)) ev_c (st_at ht0') rfl
    refine iteT (w_evT (b := decide ((n : Int) ≤ z0.1)) (et_t (ev_le (i := (n : Int)) (ev_ixT (ev_v 4) ev_c (st_at (o3.ex t _ upd_same)) rfl) tsL)) ?_)
    by_cases hle : (n : Int) ≤ z0.1
    · rw [decide_eq_true hle]
      refine iteT (s_ret ev_c (hN _ (ex_trans c2.ex o3.ex) fun qs' h => ?_))
      obtain ⟨z, hz, hqt⟩ := at_j qs' h
      rw [hpw] at hz
      cases hz
      have hr2 : Rise (qs ++ [((n : Int), (m : Int))]) := by
        rw [← hqt]
        exact h.ris.sublist (List.take_sublist _ _)
      rw [hqz] at hr2
      have := (List.pairwise_append.mp hr2).2.2 z0 (by simp) ((n : Int), (m : Int)) (by simp)
      have : z0.1 < (n : Int) := this
      omega
    · rw [decide_eq_false hle]
      refine iteF (w_next ?_)
      refine fin ?_ fun _ _ h => h
      refine ris_adj fun i y1 y2 h1 h2 => ?_
      by_cases hi : i + 1 < qs.length
      · rw [List.getElem?_append_left (by omega)] at h1
        rw [List.getElem?_append_left (by omega)] at h2
        exact hri.adj h1 h2
      · have hi2 : i + 1 = qs.length := by
          have := (List.getElem?_eq_some_iff.mp h2).1
          rw [List.length_append] at this
          simp at this
          omega
        rw [List.getElem?_append_right (by omega), hi2] at h2
        rw [List.getElem?_append_left (by omega), hqz] at h1
        have : i = q0.length := by rw [hqz, List.length_append] at hi2; simpa using hi2
        subst this
        simp at h1 h2
        rw [← h1, ← h2]
        show z0.1 < (n : Int)
        omega
def sp_law_due (K : PySem.W.Frag) : Sp := fun vs H Q _ => Nod H ∧ ∃ (x : Str), vs = [.str x] ∧ x.length ≤ 100000 ∧ (∀ qs, Rds x qs → NewP H qs Q) ∧ ((∀ qs, ¬ Rds x qs) → Q .non H)
/-- slots: text parts word halves pair -/
abbrev n_law_due : List Str := ["text", "parts", "word", "halves", "pair"]
def t_law_due (K : PySem.W.Frag) : TS := (sFg (tSeq (tAsg (tLst tNil) (gName 1))
  (tSeq (tFor (iList K (tIf (tTest (tOp rEq (tVar 0) (tC (.str (PySem.Str.ofString "1"))))) (tLst tNil) (tM1 rSplit (tVar 0) (tC (.str (PySem.Str.ofString " ")))))) (gName 2) (tSeq (tAsg (tM1 rSplit (tVar 2) (tC (.str (PySem.Str.ofString "^")))) (gName 3))
  (tSeq (tIfS (tTest (tOp rNe (tCB (cLen K) (tCons (tVar 3) tNil)) (tC (.int 2)))) (tRet (tC .non)) tNext)
  (tSeq (tAsg (tTup (tCons (tCall (sp_law_number_in K) [] E0 (tCons (tOp (rIxL K) (tVar 3) (tC (.int 0))) (tCons (tC (.int 9)) tNil))) (tCons (tCall (sp_law_number_in K) [] E0 (tCons (tOp (rIxL K) (tVar 3) (tC (.int 1))) (tCons (tC (.int 2)) tNil))) tNil))) (gName 4))
  (tSeq (tIfS (tOr (tTest (tOp oLt (tOp (rIxT K) (tVar 4) (tC (.int 0))) (tC (.int 2)))) (tOr (tTest (tOp oLt (tOp (rIxT K) (tVar 4) (tC (.int 1))) (tC (.int 1)))) (tAnd (tTest (tOp (rNeD K) (tVar 1) (tLst tNil))) (tTest (tOp oLe (tOp (rIxT K) (tVar 4) (tC (.int 0))) (tOp (rIxT K) (tOp (rIxL K) (tVar 1) (tUn uNeg (tC (.int 1)))) (tC (.int 0)))))))) (tRet (tC .non)) tNext)
  (tDrop (tBM K "list" rAppend (tVar 1) (tCons (tVar 4) tNil))))))))
  (tRet (tVar 1)))))
theorem r_law_due {K : PySem.W.Frag} {vs : List V} {H : Hp} {Q : VK} {E : XK} (h : sp_law_due K vs H Q E) : t_law_due K { nx := fun _ H' => Q .non H', rt := Q } (start n_law_due vs) H := by
  obtain ⟨nd, x, rfl, hx, q, r⟩ := h
  refine fg_body (q_setL el_nil fun pf hpf => ?_)
  have o0 : Own H [(pf, [])] (upd H pf (.lst [])) := Own.nil.new hpf
  refine q_seq (w_forL (w_if (w_evT (b := decide (x = Str.ofString "1")) (et_t (ev_eqS (ev_v 0) ev_c)) ?_)))
  by_cases hx1 : x = Str.ofString "1"
  · rw [decide_eq_true hx1]
    refine iteT (el_nil _ fun p hp => ⟨p, rfl, ⟨_, sq_up⟩, lp_due (x := x) (ws := []) (o0.new hp) (by simp) (by simp) (fun qs => ⟨fun h => ?_, fun h => ?_⟩) (fun H' e hn => ⟨H, fg_same e, r hn⟩) fun y2 y3 y4 B' as qs H' c1 o hq => s_ret (ev_v 1) (c1.ret o 0 rfl (q qs hq))⟩)
    · rcases h.or with ⟨_, rfl⟩ | ⟨z, _⟩
      · exact ⟨rfl, h.ris⟩
      · exact absurd hx1 z
    · cases qs with
      | nil => exact ⟨.inl ⟨hx1, rfl⟩, h.2⟩
      | cons a b => simp at h
  · rw [decide_eq_false hx1]
    have hsl : (Txt.split x B).length ≤ x.length + 2 := PyProof.Rows.split_le x B
    refine iteF (w_split (ev_v 0) ev_c (by decide +kernel) (szc (by omega)) fun p hp => ⟨p, rfl, ⟨_, sq_up⟩, lp_due (x := x) (ws := Txt.split x B) (o0.new hp) (fun w hw => Nat.le_trans (split_le tlB kB hw) hx) (Nat.le_trans hsl (by omega)) (fun qs => ⟨fun h => ?_, fun h => ⟨.inr ⟨hx1, h.1⟩, h.2⟩⟩) (fun H' e hn => ⟨H, fg_same e, r hn⟩) fun y2 y3 y4 B' as qs H' c1 o hq => s_ret (ev_v 1) (c1.ret o 0 rfl (q qs hq))⟩)
    rcases h.or with ⟨z, _⟩ | ⟨_, z⟩
    · exact absurd z hx1
    · exact ⟨z, h.ris⟩
end Px
set_option Elab.async false
set_option linter.all false
set_option maxRecDepth 100000
set_option maxHeartbeats 4000000
namespace Px
open PySem PySem.Spec PyProof.Rows L2
/-! ### exceptions that are looked at within their clause -/
/-- what a try wishes whose clause looks at the exception: slot i is the clause's name, the exception stands in the heap from the clause's beginning on -/
def wIn (K : PySem.W.Frag) (c : Value) (i : Nat) (ts : Addr → TS) (Wout : WX) (D : Ends) : WX := fun cls d σ H =>
  ∃ b, PySem.W.exmOne K cls c = some b ∧ (b = true → ∃ C, cls = .ref C ∧ d = none ∧ ∀ a, H a = none → ts a { nx := fun σ' H' => D.nx (σ'.set i none) H', rt := fun _ _ => False, bk := fun _ _ => False, ct := fun _ _ => False } (σ.set i (some (.ref a))) (upd H a (excH a C))) ∧
    (b = false → Wout cls d σ H)
section
variable {X : Cx} {x n : Str} {c : Value} {i : Nat} {body suite : List Stmt} {b₀ : Stmt} {np pos pos' : Pos} {tb : WX → TS} {ts : Addr → TS} {Wout : WX}
theorem ps_try_in (hs : X.stack = X.env :: X.outer) (hf : X.env.frame = some X.env.locals) (hex : X.ex = []) (hcl : ∀ x c, X.env.cells.lookup x = some c → False) (hN : X.N.Nodup) (hi : X.N[i]? = some n) (hln : X.env.kindOf n = some .local) (hc : Names X x c) (tk : Takes X Wout)
    (hb : ∀ (W : WX) (pn : List (Addr × Obj)) (xe : Value → Shared → Prop), Takes (X.tr pn xe) W → PassesOwn (model X.prog X.w) X.A X.env xe → PSs (X.tr pn xe) body (tb W))
    (hsu : ∀ (a : Addr) (pn : List (Addr × Obj)), PSs (X.suite a pn) (b₀ :: suite) (ts a)) :
    PS X (.Try body [.ExceptHandler (some (.Name x np)) (some n) (b₀ :: suite) pos'] [] [] pos) (fun D σ H => tb (wIn X.K c i ts Wout D) D σ H) := by
  refine ⟨fun pins s σ H D I h => ?_⟩
  have ok := I.ok
  have hfr : X.A.frames = some (X.env :: X.outer) := by rw [ok.frames, hs]
  have hloc : Loc X.env.scope n := .inl hln
  refine wpAny_Try_except ?_
  refine wpAny_mono ((hb (wIn X.K c i ts Wout D) (X.pn ++ pins) (fun e s₁ => wpAny (model X.prog X.w) X.A (noteFrame e X.env) (fun _ s₂ => wpAny (model X.prog X.w) X.A (setFlight e none) (fun _ s₃ =>
    wpAny (model X.prog X.w) X.A (handleBy e X.env [.ExceptHandler (some (.Name x np)) (some n) (b₀ :: suite) pos']) (SP X pins D) X.xe s₃) X.xe s₂) X.xe s₁) (fun u s' xx => ?_) PassesOwn.looking).run [] s σ H D (I.toTry _) h) (fun f s1 hsp => ?_) (fun e s1 he => he)
  · -- the catch
    obtain ⟨a, B, sI, pins', σ', H', cls, d, rfl, J', nb, up, sky, na, os, ag, b, hb1, hyes, hno⟩ := xx
    have J : Inv X pins σ' H' sI := J'.ofTry ok
    have sky' : Sky B (X.env :: X.outer) a (Zc cls d) X.env.locals s'.heap := by rw [← hs]; exact sky
    show wpAny (model X.prog X.w) X.A (noteFrame (.ref a) X.env) _ _ _
    refine Sky.land Zc.steady hfr hf sky' fun h3 fl3 up3 => ?_
    have J3 : Inv X pins σ' H' { s' with heap := h3 } := J.landed nb fl3.1 (up.trans up3) os ag
    obtain ⟨oe3, vs3, he3, hz3, hd3⟩ := fl3.there
    have notFr : ∀ {h : Heap} {o : Obj} {vs : Array Value}, h.FunFrames B (X.env :: X.outer) → h.get? a = some o → o.data = .fields vs → a ∉ frs (X.env :: X.outer) := fun {h o vs} ff e dd hm => by
      obtain ⟨_, o', e', hnf⟩ := ff.mem hm
      rw [e] at e'; cases e'
      exact hnf _ dd
    have nfr := notFr fl3.2.2.1 he3 hd3
    have nL : a ≠ X.env.locals := fun z => nfr (List.mem_filterMap.mpr ⟨X.env, List.mem_cons_self, by rw [hf, z]⟩)
    have nF : a ∉ X.fs := fun hm => by
      obtain ⟨e, he, q⟩ := List.mem_filterMap.mp hm
      exact nfr (List.mem_filterMap.mpr ⟨e, List.mem_cons_of_mem _ he, q⟩)
    have hnew : X.s_0.heap.get? a = none := by
      cases e0 : X.s_0.heap.get? a with
      | none => rfl
      | some o0 =>
        obtain ⟨o1, e1⟩ := J.base.there a o0 e0 (by rw [hex]; exact List.not_mem_nil)
        have e2 := nb a o1 e1 (by rw [hs]; exact nfr)
        rw [fl3.2.1] at e2
        cases e2
    have hInone : sI.heap.get? a = none := by
      cases e1 : sI.heap.get? a with
      | none => rfl
      | some o1 =>
        have e2 := nb a o1 e1 (by rw [hs]; exact nfr)
        rw [fl3.2.1] at e2
        cases e2
    have hpn : ∀ p ∈ X.pn ++ pins, p.1 ≠ a := fun p hp z => by
      have := (J.pin p hp).1
      rw [z, hInone] at this
      cases this
    have S3 := J3.suite he3 hd3 na nL nF
    refine wpAny_handleBy_cons (codeAny_handlers_test ?_) (by intro q; cases q)
    have LT : PySem.W.Looks (model X.prog X.w) h3 (typeOf (.ref a)) cls := fun A Q E s k q => wpAny_typeOf_ref (k _ _ he3) (by rw [hz3.1]; exact q)
    have LM := PySem.W.exm_one (M := model X.prog X.w) (J3.kIn) LT hb1
    have test : ∀ {Q : Value → Shared → Prop} {E : Value → Shared → Prop}, Q c { s' with heap := h3 } → wpAny (model X.prog X.w) (X.A.mark (some (.ref a))) (eval (.Name x np) X.env) Q E { s' with heap := h3 } := fun {Q E} q => by
      obtain ⟨hg, hdbg, hm | ⟨hm, hv, hnn⟩⟩ := hc
      · exact ld_glob (X := X.suite a ((a, oe3) :: (X.pn ++ pins))) S3 hg hm q hdbg
      · exact ld_blt (X := X.suite a ((a, oe3) :: (X.pn ++ pins))) S3 hg hm hv q hnn hdbg
    refine test (LM.here ?_)
    cases b with
    | true =>
      obtain ⟨C, rfl, rfl, hy2⟩ := hyes rfl
      refine codeAny_handlers_suite_as ?_
      refine HandSPX.lands_againZ fl3 fun h4 fl4 up4 => ?_
      have J4 : Inv X pins σ' H' { s' with heap := h4 } := J.landed nb fl4.1 ((up.trans up3).trans up4) os ag
      obtain ⟨oe4, vs4, he4, hz4, hd4⟩ := fl4.there
      have S4 := J4.suite he4 hd4 na nL nF
      have S5 : Inv (X.suite a (X.pn ++ pins)) [] σ' H' { s' with heap := h4 } := ⟨ok.suite _ _, S4.os, S4.bare, S4.base, S4.loc, S4.cell, S4.free, S4.freeC, fun p hp => S4.pin p (List.mem_append_left _ (List.mem_cons_of_mem _ (by rw [List.append_nil] at hp; exact hp))), S4.hok, S4.len⟩
      have S6 : Inv (X.suite a (X.pn ++ pins)) [] σ' (upd H' a (excH a C)) { s' with heap := h4 } := Inv.adopt S5 hnew na nL (fun y c e => (hcl y c e).elim) (fun p hp => hpn p (by rw [List.append_nil] at hp; exact hp)) (exc_ok he4 hz4 ⟨_, hd4⟩)
      refine store_ok (X := X.suite a (X.pn ++ pins)) (v := .ref a) S6 hN hi hloc rfl (fun s5 S7 => ?_) (.inr hln)
      refine wpAny_mono ((hsu a (X.pn ++ pins)).run [] s5 _ (upd H' a (excH a C)) _ S7 (hy2 a na)) (fun f s6 hsp => ?_) (fun _ _ z => False.elim z)
      cases f with
      | next =>
        obtain ⟨σ6, H6, S8, q6⟩ := hsp
        have S9 : Inv X pins σ6 H6 s6 := ⟨ok, S8.os, S8.bare, S8.base, S8.loc, S8.cell, S8.free, S8.freeC, fun p hp => S8.pin p (List.mem_append_left _ hp), S8.hok, S8.len⟩
        exact gone_ok (Q := fun _ s7 => SP X pins D .next s7) S9 hN hi hln fun s7 J7 => ⟨_, _, J7, q6⟩
      | brk => obtain ⟨_, _, _, q6⟩ := hsp; exact q6.elim
      | cont => obtain ⟨_, _, _, q6⟩ := hsp; exact q6.elim
      | ret u => obtain ⟨_, _, _, _, _, q6⟩ := hsp; exact q6.elim
    | false =>
      show wpAny _ X.A (handleBy (.ref a) X.env []) _ _ _
      refine wpAny_handleBy_nil ?_
      obtain ⟨k1, k2, k3, oe, vs, T, oT, ts', he, hz, hd, h1, hr⟩ := id fl3
      unfold PySem.passOn
      refine wpAny_bind (wpAny_field he hd h1 ?_)
      rw [if_neg (show ¬ ((Value.ref T == Value.none) = true) from by simp)]
      have fin : wpAny (model X.prog X.w) X.A (setFlight (.ref a) X.env.frame) (fun _ s4 => wpAny (model X.prog X.w) X.A (throw (.ref a) : Sem Flow) (SP X pins D) X.xe s4) X.xe { s' with heap := h3 } := by
        rw [hf]
        refine HandSPX.setFlight_upZ fl3 fun h4 hh4 up4 => wpAny_throw (tk _ _ ?_)
        exact ⟨a, B, sI, pins, σ', H', cls, d, rfl, J, nb, (up.trans up3).trans up4, .inr (.inr (by rw [hs]; exact hh4)), na, os, ag, hno rfl⟩
      first
        | exact wpAny_bind (wpAny_pure (wpAny_bind fin))
        | exact wpAny_bind fin
  · cases f with
    | next =>
      obtain ⟨σ', H', J', q⟩ := hsp
      exact wpAny_execs_nil ⟨σ', H', J'.ofTry ok, q⟩
    | brk =>
      obtain ⟨σ', H', J', q⟩ := hsp
      exact ⟨σ', H', J'.ofTry ok, q⟩
    | cont =>
      obtain ⟨σ', H', J', q⟩ := hsp
      exact ⟨σ', H', J'.ofTry ok, q⟩
    | ret u =>
      obtain ⟨v, σ', H', J', r, q⟩ := hsp
      exact ⟨v, σ', H', J'.ofTry ok, r, q⟩
end

def tTryI (K : PySem.W.Frag) (c : Value) (i : Nat) (tb : WX → TS) (ts : Addr → TS) : TS := fun D σ H => tb (wIn K c i ts (fun _ _ _ _ => False) D) D σ H
theorem ps_tryi {X : Cx} {x n : Str} {c : Value} {i : Nat} {body suite : List Stmt} {b₀ : Stmt} {np pos pos' : Pos} {tb : WX → TS} {ts : Addr → TS} (hs : X.stack = X.env :: X.outer) (hf : X.env.frame = some X.env.locals) (hex : X.ex = []) (hcl : ∀ x c, X.env.cells.lookup x = some c → False) (hN : X.N.Nodup) (hi : X.N[i]? = some n) (hln : X.env.kindOf n = some .local) (hc : Names X x c)
    (hb : ∀ (W : WX) (pn : List (Addr × Obj)) (xe : Value → Shared → Prop), Takes (X.tr pn xe) W → PassesOwn (model X.prog X.w) X.A X.env xe → PSs (X.tr pn xe) body (tb W))
    (hsu : ∀ (a : Addr) (pn : List (Addr × Obj)), PSs (X.suite a pn) (b₀ :: suite) (ts a)) :
    PS X (.Try body [.ExceptHandler (some (.Name x np)) (some n) (b₀ :: suite) pos'] [] [] pos) (tTryI X.K c i tb ts) :=
  ps_try_in hs hf hex hcl hN hi hln hc (fun u s' ⟨_, _, _, _, _, _, _, _, _, _, _, _, _, _, _, _, z⟩ => z.elim) hb hsu
theorem w_tryi {K : PySem.W.Frag} {c : Value} {i : Nat} {tb : WX → TS} {ts : Addr → TS} {D : Ends} {σ : L2.St} {H : Hp} (h : tb (wIn K c i ts (fun _ _ _ _ => False) D) D σ H) : tTryI K c i tb ts D σ H := h
theorem w_in {K : PySem.W.Frag} (hX : Errs K) {x : Str} (hx : x ∈ five) {i : Nat} {ts : Addr → TS} {Wout : WX} {D : Ends} {σ : L2.St} {H : Hp} (k : ∀ a, H a = none → ts a { nx := fun σ' H' => D.nx (σ'.set i none) H', rt := fun _ _ => False, bk := fun _ _ => False, ct := fun _ _ => False } (σ.set i (some (.ref a))) (upd H a (excH a (He.ga K x)))) :
    wIn K (.ref (He.ga K "PartError")) i ts Wout D (.ref (He.ga K x)) none σ H := ⟨true, (hX x hx).part, fun _ => ⟨_, rfl, rfl, k⟩, fun z => nomatch z⟩
end Px
set_option Elab.async false
set_option linter.all false
set_option maxRecDepth 100000
set_option maxHeartbeats 4000000
namespace Px
open PySem L2 MA TX TL
/-! ### repr of parts (as in L47) -/
theorem rp_show : ∀ {qs : List (Int × Int)}, (∀ q ∈ qs, OkQ q) → PyData.showableAll (qs.map pd) = true ∧ PyData.hasDictAll (qs.map pd) = false ∧ PyData.depthAll (qs.map pd) ≤ 1 ∧ PyData.leavesShortAll 13 (qs.map pd) = true ∧ PyData.weightAll (qs.map pd) ≤ 43 * qs.length
  | [], _ => by simp [PyData.showableAll, PyData.hasDictAll, PyData.depthAll, PyData.leavesShortAll, PyData.weightAll]
  | q :: r, h => by
    obtain ⟨h1, h2, h3, h4, h5⟩ := rp_show (qs := r) fun z hz => h z (List.mem_cons_of_mem _ hz)
    obtain ⟨o1, o2, o3, o4⟩ := h q List.mem_cons_self
    have b1 : q.1.natAbs.log2 < 30 := (Nat.log2_lt (by omega)).mpr (by omega)
    have b2 : q.2.natAbs.log2 < 7 := (Nat.log2_lt (by omega)).mpr (by omega)
    have s1 : (PyData.shown (.int q.1)).length ≤ 13 := PyData.shown_int_le (by omega)
    have s2 : (PyData.shown (.int q.2)).length ≤ 13 := PyData.shown_int_le (by omega)
    refine ⟨?_, ?_, ?_, ?_, ?_⟩
    · simp only [List.map_cons, PyData.showableAll, PyData.showable, h1, Bool.and_true, Bool.and_eq_true, decide_eq_true_eq]
      omega
    · simp only [List.map_cons, PyData.hasDictAll, PyData.hasDict, h2, Bool.or_false]
    · simp only [List.map_cons, PyData.depthAll, PyData.depth]
      omega
    · simp only [List.map_cons, PyData.leavesShortAll, PyData.leavesShort, h4, Bool.and_true, Bool.and_eq_true, decide_eq_true_eq]
      exact ⟨s1, s2⟩
    · simp only [List.map_cons, PyData.weightAll, PyData.weight, List.length_cons]
      split <;> split <;> omega
theorem r_reprP {K : PySem.W.Frag} {H : Hp} {Q : VK} {a : Addr} {as : List Addr} {qs : List (Int × Int)} (pr : Prs H a as qs) (ok : ∀ q ∈ qs, OkQ q) (hl : qs.length ≤ 20000) (q : Q (.str (PyData.list (qs.map pd)).shown) H) : cRepr K [.ref a] H Q := by
  obtain ⟨h1, h2, h3, h4, h5⟩ := rp_show ok
  refine ⟨a, .list (qs.map pd), rfl, pr.dp, h1, h2, ?_, PyData.shown_fits (B := 13) (by decide) (by decide) h4 ?_, q⟩
  · show PyData.depthAll (qs.map pd) + 1 ≤ 50
    omega
  · show PyData.weightAll (qs.map pd) ≤ 2 ^ 20
    omega
theorem ev_reprP {K : PySem.W.Frag} {σ : L2.St} {H : Hp} {te : TE} {a : Addr} {as : List Addr} {qs : List (Int × Int)} (h : Ev te σ H (.ref a)) (pr : Prs H a as qs) (ok : ∀ q ∈ qs, OkQ q) (hl : qs.length ≤ 20000) : Ev (tCB (cRepr K) (tCons te tNil)) σ H (.str (PyData.list (qs.map pd)).shown) := ev_cb (ea_1 h) fun _ q => r_reprP pr ok hl q
theorem i9 : (10 : Int) ^ (9 : Int).toNat = 1000000000 := rfl
end Px
set_option Elab.async false
set_option linter.all false
set_option maxRecDepth 100000
set_option maxHeartbeats 4000000
namespace Px
open PySem L2 MA TX TL
local macro_rules | `(tactic| bv_omega) => `(tactic| first | assumption | omega | exact cm (by omega) | exact cd (by omega) | exact cp (by omega) | exact trivial)
local macro_rules | `(tactic| array_get_dec) => `(tactic| first
  | assumption
  | exact sq_up
  | exact Own.sqi (by assumption) 0 (by rfl)
  | exact Own.sqi (by assumption) 1 (by rfl)
  | exact Own.sqi (by assumption) 2 (by rfl)
  | exact Own.sqi (by assumption) 3 (by rfl)
  | exact Own.sqi (by assumption) 4 (by rfl)
  | exact Own.sq (by assumption) (by assumption)
  | exact sq_new (by assumption) (by assumption))
local macro_rules | `(tactic| clean_wf) => `(tactic| first
  | with_reducible exact ev_c
  | (with_reducible apply ev_v') <;> rfl
  | (with_reducible apply ev_add) <;> clean_wf
  | (with_reducible apply ev_sub) <;> clean_wf
  | (with_reducible apply ev_mul) <;> clean_wf
  | (with_reducible apply ev_mod) <;> clean_wf
  | (with_reducible apply ev_div) <;> clean_wf
  | (with_reducible apply ev_pow) <;> clean_wf
  | (with_reducible apply ev_neg) <;> clean_wf
  | (with_reducible apply ev_lt) <;> clean_wf
  | (with_reducible apply ev_le) <;> clean_wf
  | (with_reducible apply ev_gt) <;> clean_wf
  | (with_reducible apply ev_ge) <;> clean_wf
  | (with_reducible apply ev_eqi) <;> clean_wf
  | (with_reducible apply ev_nei) <;> clean_wf
  | (with_reducible apply ev_len) <;> clean_wf
  | (with_reducible apply ev_ixL) <;> clean_wf
  | (with_reducible apply ev_min) <;> clean_wf
  | (with_reducible apply ev_max) <;> clean_wf
  | (with_reducible apply ev_abs) <;> clean_wf
  | (with_reducible apply ev_intB) <;> clean_wf
  | (with_reducible apply ea_1) <;> clean_wf
  | (with_reducible apply ea_2) <;> clean_wf
  | (with_reducible apply ea_3) <;> clean_wf
  | with_reducible exact ea_nil
  | (with_reducible apply ea_cons) <;> clean_wf
  | with_reducible exact el_nil
  | (with_reducible apply ep_lt) <;> clean_wf
  | (with_reducible apply ep_le) <;> clean_wf
  | (with_reducible apply ep_gt) <;> clean_wf
  | (with_reducible apply ep_ge) <;> clean_wf
  | (with_reducible apply ep_eqi) <;> clean_wf
  | (with_reducible apply ep_nei) <;> clean_wf
  | (with_reducible apply ep_not) <;> clean_wf
  | ((with_reducible apply ep_and) <;> first | (intro _; clean_wf; done) | clean_wf)
  | ((with_reducible apply ep_or) <;> first | (intro _; clean_wf; done) | clean_wf)
  | (with_reducible apply et_t) <;> clean_wf
  | (with_reducible apply eo_is) <;> clean_wf
  | with_reducible exact eo_no
  | array_get_dec
  | bv_omega
  | rfl
  | skip)
local macro_rules | `(tactic| symm_saturate) => `(tactic| first
  | ((with_reducible apply q_set); (focus (clean_wf; done)))
  | ((with_reducible apply s_set); (focus (clean_wf; done)))
  | ((with_reducible apply q_aug (hx := rfl)); (focus (clean_wf; done)))
  | ((with_reducible apply s_aug (hx := rfl)); (focus (clean_wf; done)))
  | ((with_reducible apply q_augC (hx := rfl)); (focus (clean_wf; done)))
  | ((with_reducible apply s_augC (hx := rfl)); (focus (clean_wf; done))))
local macro_rules | `(tactic| subst_eqs) => `(tactic| repeat' (first
  | with_reducible apply w_c
  | ((with_reducible apply w_v'); (focus rfl))
  | with_reducible apply w_op
  | with_reducible apply w_cb
  | with_reducible apply w_cons
  | with_reducible apply w_nil
  | with_reducible apply r_add
  | with_reducible apply r_sub
  | ((with_reducible apply r_mul); (focus (bv_omega; done)))
  | ((with_reducible apply r_div); (focus (bv_omega; done)))
  | ((with_reducible apply r_mod); (focus (bv_omega; done)))
  | ((with_reducible apply r_pow); (focus (bv_omega; done)))
  | with_reducible apply r_lt
  | with_reducible apply r_le
  | with_reducible apply r_gt
  | with_reducible apply r_ge
  | with_reducible apply r_min
  | with_reducible apply r_max
  | with_reducible apply r_intB
  | ((with_reducible apply r_len); (focus (array_get_dec; done)))
  | with_reducible apply w_callW
  | with_reducible apply q_setW
  | with_reducible apply s_setW
  | with_reducible apply s_retW))

/-! ### a text read, or refused -/
theorem rds_len48 {x : Str} {qs : List (Int × Int)} (h : Rds x qs) : qs.length ≤ x.length + 2 := by
  rcases h.or with ⟨_, rfl⟩ | ⟨_, e⟩
  · simp
  · have h1 : (Txt.split x B).length ≤ x.length + 2 := PyProof.Rows.split_le x B
    have := congrArg List.length e
    rw [List.length_map, List.length_map] at this
    omega
def sp_law_right (K : PySem.W.Frag) : Sp := fun vs H Q _ => Nod H ∧ ∃ (x : Str), vs = [.str x] ∧ x.length ≤ 19990 ∧ Q (.bl true) H
/-- slots: text found kinds e due -/
abbrev n_law_right : List Str := ["text", "found", "kinds", "e", "due"]
def t_law_right (K : PySem.W.Frag) : TS := (sFg (tSeq (tAsg (tC .non) (gName 1))
  (tSeq (tAsg (tLst tNil) (gName 2))
  (tSeq (tTryI K (.ref (He.ga K "PartError")) 3 (fun W => (tAsg (tCallS (sp_read_parts K) (WE W) (tCons (tVar 0) tNil)) (gName 1))) (fun a => (tSeq (tAsg (tLst (tCons (tCB (rIsX K) (tCons (tVar 3) (tCons (tC (.ref (He.ga K "NoText"))) tNil))) (tCons (tCB (rIsX K) (tCons (tVar 3) (tCons (tC (.ty "ValueError")) tNil))) tNil))) (gName 2))
  (tDrop (tBM K "list" rAppend (tVar 2) (tCons (tCB (rIsXT K) (tCons (tVar 3) (tCons (tTup (tCons (tC (.ref (He.ga K "NoCommand"))) (tCons (tC (.ref (He.ga K "NoNumber"))) (tCons (tC (.ref (He.ga K "NoPlace"))) (tCons (tC (.ref (He.ga K "NoPrimes"))) tNil))))) tNil))) tNil))))))
  (tSeq (tAsg (tCall (sp_law_due K) [] E0 (tCons (tVar 0) tNil)) (gName 4))
  (tSeq (tIfS (tTest (tOp oIsN (tVar 4) (tC .non))) (tRet (tOp (rEqD K) (tVar 2) (tLst (tCons (tC (.bl true)) (tCons (tC (.bl true)) (tCons (tC (.bl false)) tNil)))))) tNext)
  (tRet (tAndV (tOp (rEqD K) (tVar 2) (tLst tNil)) (tAndV (tOp rEq (tCB (cRepr K) (tCons (tVar 1) tNil)) (tCB (cRepr K) (tCons (tVar 4) tNil))) (tOp rEq (tCall (sp_show_parts K) [] E0 (tCons (tVar 4) tNil)) (tVar 0)))))))))))
theorem r_law_right {K : PySem.W.Frag} (hX : Errs K) {vs : List V} {H : Hp} {Q : VK} {E : XK} (h : sp_law_right K vs H Q E) : t_law_right K { nx := fun _ H' => Q .non H', rt := Q } (start n_law_right vs) H := by
  obtain ⟨nd, x, rfl, hx, q⟩ := h
  refine fg_body (q_set ev_c (q_setL el_nil fun pk hpk => ?_))
  have o : Own H [(pk, [])] _ := Own.nil.new hpk
  by_cases hr : ∃ qs, Rds x qs
  · obtain ⟨qs, hqs⟩ := hr
    have hl : qs.length ≤ 20000 := Nat.le_trans (rds_len48 hqs) (by omega)
    have hok := hqs.ok
    refine q_seq (w_tryi (s_setW (w_one (w_v 0 ⟨o.nod, x, rfl, by omega, fun qs' hq' p1 as H1 hp1 has e1 n1 pr1 => ?_, fun hn => absurd hqs (hn qs)⟩))))
    obtain rfl := hq'.uniq hqs
    have hk1 := e1 pk _ (o.atI 0 rfl)
    have o1 : Own H [(pk, [])] H1 := o.any e1 n1
    dsimp only
    refine q_setW (w_callW (w_one (w_v 0 ⟨n1, x, rfl, by omega, fun qs2 hq2 p2 bs H2 hp2 hbs e2 n2 pr2 => ?_, fun hn => absurd hq' (hn qs')⟩)))
    obtain rfl := hq2.uniq hq'
    have o2 : Own H [(pk, [])] H2 := o1.any e2 n2
    refine q_when (b := false) (et_eq (et_t (ev_isN (ev_v 4))) rfl) (fun z => nomatch z) fun _ => ?_
    refine s_retW (w_andV (w_op (w_v 2 (el_nil _ fun pe hpe => rv_eqI (ns := []) (ms := []) (sq_new hpe (o2.sqi 0 rfl)) sq_up _ ⟨_, rfl, ?_⟩))))
    have o3 := o2.tmp (xs := []) hpe
    have e3 : Ex H2 (upd H2 pe (.lst [])) := ex_new hpe
    rw [decide_eq_true rfl]
    refine iteT (w_andV (w_op (w_ev (ev_reprP (ev_v 1) ((pr1.ex e2).ex e3) hok hl) (w_ev (ev_reprP (ev_v 4) (pr2.ex e3) hok hl) ⟨rfl, ⟨_, rfl, ?_⟩⟩))))
    rw [dec_strD, decide_eq_true rfl]
    refine iteT (w_op (w_callW (w_one (w_v 4 ⟨o3.nod, p2, bs, _, rfl, pr2.ex e3, hok, hl, w_v 0 ⟨rfl, ?_⟩⟩))))
    rw [dec_strD, hqs.shw, decide_eq_true rfl]
    exact ⟨H, fg_same o3.ex, q⟩
  · have hr2 : ∀ qs, ¬ Rds x qs := fun qs h => hr ⟨qs, h⟩
    have hp := hX "NoText" (by decide)
    refine q_seq (w_tryi (s_setW (w_one (w_v 0 ⟨o.nod, x, rfl, by omega, fun qs' hq' => absurd hq' (hr2 qs'), fun hn H1 e1 n1 => ?_⟩))))
    refine w_in hX (by decide) fun a ha => ?_
    have o1 : Own H [(pk, [])] H1 := o.any e1 n1
    have o2 : Own H [(pk, [])] (upd H1 a (excH a (He.ga K "NoText"))) := o1.any (ex_new ha) (nod_upd n1 trivial)
    have hH : upd H1 a (excH a (He.ga K "NoText")) a = some (excH a (He.ga K "NoText")) := upd_same
    refine q_setW (w_evL (el_lst (ea_2 (ev_isXe hp (by decide) (ev_v 3) hH) (ev_isXv hp (ev_v 3) hH)) (by simp)) fun pk2 hpk2 => ?_)
    have o3 := o2.new (xs := [.bl (decide (("NoText" : Str) = "NoText")), .bl true]) hpk2
    have hH2 := ex_new (o := .lst [.bl (decide (("NoText" : Str) = "NoText")), .bl true]) hpk2 _ _ hH
    refine s_dropW (w_appR (ev_v 2) (o3.sqi 0 rfl) (w_one (w_isX5 hp (ev_v 3) hH2 (by decide) (by decide) (by decide) (by decide) fun tp htp => ?_)))
    have o4 := o3.tup (xs := [.ref (He.ga K "NoCommand"), .ref (He.ga K "NoNumber"), .ref (He.ga K "NoPlace"), .ref (He.ga K "NoPrimes")]) htp
    refine ⟨pk2, _, .bl false, rfl, rfl, o4.atI 0 rfl, szl (by simp), ?_⟩
    have o5 := o4.mut (ys := [.bl (decide (("NoText" : Str) = "NoText")), .bl true] ++ [.bl false]) 0 rfl
    dsimp only
    refine q_setW (w_callW (w_one (w_v 0 ⟨o5.nod, x, rfl, by omega, fun qs hq => absurd hq (hr2 qs), fun _ => ?_⟩)))
    refine q_when (b := true) (et_eq (et_t (ev_isN (ev_v 4))) rfl) (fun _ => ?_) fun z => nomatch z
    refine s_retW (w_op (w_v 2 (w_evL (el_lst (ea_3 ev_c ev_c ev_c) (by simp)) fun pz hpz => ?_)))
    have o6 := o5.tmp (xs := [.bl true, .bl true, .bl false]) hpz
    refine ⟨.list [.bool true, .bool true, .bool false], .list [.bool true, .bool true, .bool false], .lst (sq_at (o6.atI 0 rfl)) (.cons (.bl _) (.cons (.bl _) (.cons (.bl _) .nil))), .lst (sq_at upd_same) (.cons (.bl _) (.cons (.bl _) (.cons (.bl _) .nil))), by decide +kernel, by decide +kernel, ?_⟩
    rw [show PyData.eqv (.list [.bool true, .bool true, .bool false]) (.list [.bool true, .bool true, .bool false]) = true by decide +kernel]
    exact ⟨H, fg_same o6.ex, q⟩
end Px
set_option Elab.async false
set_option linter.all false
set_option maxRecDepth 100000
set_option maxHeartbeats 4000000
namespace Px
open PySem L2 MA TX TL
local macro_rules | `(tactic| bv_omega) => `(tactic| first | assumption | omega | exact cm (by omega) | exact cd (by omega) | exact cp (by omega) | exact trivial)
local macro_rules | `(tactic| array_get_dec) => `(tactic| first
  | assumption
  | exact sq_up
  | exact Own.sqi (by assumption) 0 (by rfl)
  | exact Own.sqi (by assumption) 1 (by rfl)
  | exact Own.sqi (by assumption) 2 (by rfl)
  | exact Own.sqi (by assumption) 3 (by rfl)
  | exact Own.sqi (by assumption) 4 (by rfl)
  | exact Own.sq (by assumption) (by assumption)
  | exact sq_new (by assumption) (by assumption))
local macro_rules | `(tactic| clean_wf) => `(tactic| first
  | with_reducible exact ev_c
  | (with_reducible apply ev_v') <;> rfl
  | (with_reducible apply ev_add) <;> clean_wf
  | (with_reducible apply ev_sub) <;> clean_wf
  | (with_reducible apply ev_mul) <;> clean_wf
  | (with_reducible apply ev_mod) <;> clean_wf
  | (with_reducible apply ev_div) <;> clean_wf
  | (with_reducible apply ev_pow) <;> clean_wf
  | (with_reducible apply ev_neg) <;> clean_wf
  | (with_reducible apply ev_lt) <;> clean_wf
  | (with_reducible apply ev_le) <;> clean_wf
  | (with_reducible apply ev_gt) <;> clean_wf
  | (with_reducible apply ev_ge) <;> clean_wf
  | (with_reducible apply ev_eqi) <;> clean_wf
  | (with_reducible apply ev_nei) <;> clean_wf
  | (with_reducible apply ev_len) <;> clean_wf
  | (with_reducible apply ev_ixL) <;> clean_wf
  | (with_reducible apply ev_min) <;> clean_wf
  | (with_reducible apply ev_max) <;> clean_wf
  | (with_reducible apply ev_abs) <;> clean_wf
  | (with_reducible apply ev_intB) <;> clean_wf
  | (with_reducible apply ea_1) <;> clean_wf
  | (with_reducible apply ea_2) <;> clean_wf
  | (with_reducible apply ea_3) <;> clean_wf
  | with_reducible exact ea_nil
  | (with_reducible apply ea_cons) <;> clean_wf
  | with_reducible exact el_nil
  | (with_reducible apply ep_lt) <;> clean_wf
  | (with_reducible apply ep_le) <;> clean_wf
  | (with_reducible apply ep_gt) <;> clean_wf
  | (with_reducible apply ep_ge) <;> clean_wf
  | (with_reducible apply ep_eqi) <;> clean_wf
  | (with_reducible apply ep_nei) <;> clean_wf
  | (with_reducible apply ep_not) <;> clean_wf
  | ((with_reducible apply ep_and) <;> first | (intro _; clean_wf; done) | clean_wf)
  | ((with_reducible apply ep_or) <;> first | (intro _; clean_wf; done) | clean_wf)
  | (with_reducible apply et_t) <;> clean_wf
  | (with_reducible apply eo_is) <;> clean_wf
  | with_reducible exact eo_no
  | array_get_dec
  | bv_omega
  | rfl
  | skip)
local macro_rules | `(tactic| symm_saturate) => `(tactic| first
  | ((with_reducible apply q_set); (focus (clean_wf; done)))
  | ((with_reducible apply s_set); (focus (clean_wf; done)))
  | ((with_reducible apply q_aug (hx := rfl)); (focus (clean_wf; done)))
  | ((with_reducible apply s_aug (hx := rfl)); (focus (clean_wf; done)))
  | ((with_reducible apply q_augC (hx := rfl)); (focus (clean_wf; done)))
  | ((with_reducible apply s_augC (hx := rfl)); (focus (clean_wf; done))))
local macro_rules | `(tactic| subst_eqs) => `(tactic| repeat' (first
  | with_reducible apply w_c
  | ((with_reducible apply w_v'); (focus rfl))
  | with_reducible apply w_op
  | with_reducible apply w_cb
  | with_reducible apply w_cons
  | with_reducible apply w_nil
  | with_reducible apply r_add
  | with_reducible apply r_sub
  | ((with_reducible apply r_mul); (focus (bv_omega; done)))
  | ((with_reducible apply r_div); (focus (bv_omega; done)))
  | ((with_reducible apply r_mod); (focus (bv_omega; done)))
  | ((with_reducible apply r_pow); (focus (bv_omega; done)))
  | with_reducible apply r_lt
  | with_reducible apply r_le
  | with_reducible apply r_gt
  | with_reducible apply r_ge
  | with_reducible apply r_min
  | with_reducible apply r_max
  | with_reducible apply r_intB
  | ((with_reducible apply r_len); (focus (array_get_dec; done)))
  | with_reducible apply w_callW
  | with_reducible apply q_setW
  | with_reducible apply s_setW
  | with_reducible apply s_retW))

/-! ### lists of texts -/
theorem ok_of (s : String) : PyData.strOk (Str.ofString s) = true := by
  unfold PyData.strOk
  rw [Array.all_eq_true']
  intro c hc
  have hc : c ∈ (Str.ofString s).cps.toList := by simpa using hc
  rw [Str.ofString_eq_toList] at hc
  simp only [List.mem_map] at hc
  obtain ⟨ch, _, rfl⟩ := hc
  have h2 : ch.toNat < 1114112 := by
    rcases ch.valid with h | h
    · have : ch.val.toNat < 55296 := h
      show ch.val.toNat < _
      omega
    · exact h.2
  exact decide_eq_true h2
theorem ok_app {x y : Str} (h : PyData.strOk x = true) (g : PyData.strOk y = true) : PyData.strOk (x ++ y) = true := by
  unfold PyData.strOk at *
  rw [Array.all_eq_true'] at *
  intro c hc
  have e : (x ++ y).cps = x.cps ++ y.cps := rfl
  rw [e, Array.mem_append] at hc
  exact hc.elim (h c) (g c)
theorem lay_strs : ∀ ws : List Str, (∀ w ∈ ws, PyData.strOk w = true) → PyData.canLayAll0 (ws.map PyData.str) = true
  | [], _ => rfl
  | w :: ws, h => by
    rw [List.map_cons, PyData.canLayAll0, lay_strs ws fun v hv => h v (List.mem_cons_of_mem _ hv)]
    simp [PyData.canLay0, h w List.mem_cons_self]
theorem dep_strs : ∀ ws : List Str, PyData.depthAll (ws.map PyData.str) = 0
  | [] => rfl
  | w :: ws => by rw [List.map_cons, PyData.depthAll, dep_strs ws]; simp [PyData.depth]
theorem shaped_strs (ws : List Str) (hw : ∀ w ∈ ws, PyData.strOk w = true) : SeqAt.shaped (.list (ws.map PyData.str)) = true := by
  unfold SeqAt.shaped
  rw [PyData.canLay0, lay_strs ws hw, PyData.depth, dep_strs]
  decide
theorem dp_strs {K : PySem.W.Frag} {H : Hp} : ∀ ws : List Str, DpAll K H (ws.map V.str) (ws.map PyData.str)
  | [] => .nil
  | w :: ws => .cons (.str w) (dp_strs ws)
theorem rv_eqS0 {K : PySem.W.Frag} {H : Hp} {a b : Addr} {ws : List Str} (hw : ∀ w ∈ ws, PyData.strOk w = true) (ha : SqL K H a (ws.map V.str)) (hb : SqL K H b []) : RV (rEqD K) (.ref a) (.ref b) H (.bl (decide (ws = []))) := fun Q q =>
  ⟨_, _, .lst ha (dp_strs ws), .lst hb .nil, shaped_strs ws hw, shaped_strs [] (by simp), by
    rw [PyData.eqv]
    cases ws with
    | nil => exact q
    | cons w r => rw [List.map_cons, PyData.eqvAll]; exact q⟩
theorem ev_repS {σ : L2.St} {H : Hp} {ta tb : TE} {a : Str} {n : Int} (ha : Ev ta σ H (.str a)) (hb : Ev tb σ H (.int n)) (ok : MulOk a n) : Ev (tOp oRepS ta tb) σ H (.str (Txt.mul a n)) := ev_op ha hb fun _ q => ⟨a, n, rfl, rfl, ok, q⟩
def slen (ws : List Str) : Nat := (ws.map (·.length)).sum
theorem slen_app (a b : List Str) : slen (a ++ b) = slen a + slen b := by unfold slen; rw [List.map_append, List.sum_append]
theorem slen_sub {a b : List Str} (h : a.Sublist b) : slen a ≤ slen b := by
  induction h with
  | slnil => exact Nat.le_refl _
  | cons x h ih => unfold slen at *; rw [List.map_cons, List.sum_cons]; omega
  | cons_cons x h ih => unfold slen at *; rw [List.map_cons, List.map_cons, List.sum_cons, List.sum_cons]; omega
theorem cut_strs (ws : List Str) (lo hi : Option Int) : ∃ zs : List Str, cutV (ws.map V.str) lo hi = zs.map V.str ∧ zs.Sublist ws := by
  refine ⟨(ws.drop (HT.sIx (ws.map V.str).length 0 lo)).take (HT.sIx (ws.map V.str).length (ws.map V.str).length hi - HT.sIx (ws.map V.str).length 0 lo), ?_, (List.take_sublist _ _).trans (List.drop_sublist _ _)⟩
  unfold cutV
  rw [List.map_take, List.map_drop]
theorem joinL_sum (S : List Nat) : ∀ ps : List (List Nat), (ps.map (·.length)).sum ≤ (joinL S ps).length
  | [] => Nat.zero_le _
  | [q] => by simp [joinL]
  | q :: r :: t => by
    have ih := joinL_sum S (r :: t)
    show ((q :: r :: t).map (·.length)).sum ≤ (q ++ (S ++ joinL S (r :: t))).length
    rw [List.length_append, List.length_append, List.map_cons, List.sum_cons]
    omega
theorem slen_split {x y : Str} {s : Nat} (ey : tl y = [s]) (hk : y.cps.all (· < 256) = true) : slen (Txt.split x y) ≤ x.length := by
  have e := congrArg tl (join_split (x := x) ey hk)
  rw [join_eq, tl_join] at e
  have h := joinL_sum (tl y) ((Txt.split x y).map tl)
  rw [e, ← len_tl, List.map_map] at h
  unfold slen
  exact h
theorem join_len48 (ws : List Str) : (Txt.join B ws).length ≤ slen ws + ws.length := by
  have h1 := StrLaws.join_length_le B ws
  rw [join_eq]
  rw [show B.length = 1 by decide +kernel, Nat.mul_one] at h1
  exact h1
section
variable {K : PySem.W.Frag} {σ : L2.St} {H B0 : Hp} {L : List (Addr × List V)} {te : TE} {Q : VK}
theorem w_slS48 {tl th : TO} {p : Addr} {ws : List Str} {lo hi : Option Int} (o : Own B0 L H) (i : Nat) (hi' : L[i]? = some (p, ws.map V.str)) (h : Ev te σ H (.ref p)) (h1 : EvO tl σ H lo) (h2 : EvO th σ H hi) (k : ∀ (q : Addr) (zs : List Str) (H2 : Hp), zs.Sublist ws → Own B0 ((q, zs.map V.str) :: L) H2 → Q (.ref q) H2) : tSl (rSlL K) te tl th σ H Q := by
  obtain ⟨zs, e, hz⟩ := cut_strs ws lo hi
  refine w_evL (el_sl h h1 h2 (o.sqi i hi')) fun q hq => ?_
  rw [e]
  exact k q zs _ hz (o.new hq)
theorem w_catS48 {p q : Addr} {xs ys : List Str} (o : Own B0 L H) (i j : Nat) (hi : L[i]? = some (p, xs.map V.str)) (hj : L[j]? = some (q, ys.map V.str)) (hl : xs.length + ys.length < 16000000) (k : ∀ r H2, Own B0 ((r, (xs ++ ys).map V.str) :: L) H2 → Q (.ref r) H2) : rCat (.ref p) (.ref q) H Q :=
  ⟨p, q, _, _, rfl, rfl, o.atI i hi, o.atI j hj, Nat.le_of_lt (szl (by rw [List.length_map, List.length_map]; exact hl)), fun r hr => by rw [← List.map_append]; exact k r _ (o.new hr)⟩
theorem w_lstS48 {t : TA} {ws : List Str} (o : Own B0 L H) (h : EvA t σ H (ws.map V.str)) (hl : ws.length ≤ 1000) (k : ∀ r H2, Own B0 ((r, ws.map V.str) :: L) H2 → Q (.ref r) H2) : tLst t σ H Q := w_evL (el_lst h (by rw [List.length_map]; exact hl)) fun r hr => k r _ (o.new hr)
theorem ev_cutS {tl th : TO} {x : Str} {lo hi : Option Int} (h : Ev te σ H (.str x)) (h1 : EvO tl σ H lo) (h2 : EvO th σ H hi) (hx : x.length ≤ sizeLine) : Ev (tSl rSlS te tl th) σ H (.str (cutS x lo hi)) := fun _ q => h _ (h1 _ (h2 _ ⟨x, rfl, hx, q⟩))
end
/-! ### words that are nearly parts -/
abbrev bad1 : List Str := [PySem.Str.ofString "", PySem.Str.ofString "1", PySem.Str.ofString "2", PySem.Str.ofString "^", PySem.Str.ofString "2^", PySem.Str.ofString "^2", PySem.Str.ofString "2^0", PySem.Str.ofString "2^00", PySem.Str.ofString "2^01", PySem.Str.ofString "02^1", PySem.Str.ofString "1^1", PySem.Str.ofString "0^1", PySem.Str.ofString "2^1^1"]
abbrev bad2 : List Str := [PySem.Str.ofString "2^100", PySem.Str.ofString "2^99", PySem.Str.ofString "999999999^9", PySem.Str.ofString "1000000000^1", PySem.Str.ofString "-2^1", PySem.Str.ofString "2^-1", PySem.Str.ofString "+2^1", PySem.Str.ofString "2^+1"]
abbrev bad3 : List Str := [PySem.Str.ofString "2.0^1", PySem.Str.ofString "2_0^1", PySem.Str.ofString "x^1", PySem.Str.ofString "2^x", PySem.Str.ofString "2 ^1", PySem.Str.ofString "2^ 1", PySem.Str.ofString "2*3", PySem.Str.ofString "2^1\n", PySem.Str.ofString "-"]
def sp_law_bad (K : PySem.W.Frag) : Sp := fun vs H Q _ => Nod H ∧ ∃ (a : Addr) (d t k : Int), vs = [.ref a] ∧ H a = some (.lst (dk d t k)) ∧ 0 ≤ k ∧ k < 2 ^ 50 ∧ ∀ (w : Str) (d' k' : Int), w.length ≤ 1000 → k ≤ k' → k' ≤ k + 2 → Q (.str w) (upd H a (.lst (dk d' t k')))
/-- slots: deck some odd sign -/
abbrev n_law_bad : List Str := ["deck", "some", "odd", "sign"]
def t_law_bad (K : PySem.W.Frag) : TS := (sFg (tSeq (tAsg (tLst (tCons (tC (.str (PySem.Str.ofString ""))) (tCons (tC (.str (PySem.Str.ofString "1"))) (tCons (tC (.str (PySem.Str.ofString "2"))) (tCons (tC (.str (PySem.Str.ofString "^"))) (tCons (tC (.str (PySem.Str.ofString "2^"))) (tCons (tC (.str (PySem.Str.ofString "^2"))) (tCons (tC (.str (PySem.Str.ofString "2^0"))) (tCons (tC (.str (PySem.Str.ofString "2^00"))) (tCons (tC (.str (PySem.Str.ofString "2^01"))) (tCons (tC (.str (PySem.Str.ofString "02^1"))) (tCons (tC (.str (PySem.Str.ofString "1^1"))) (tCons (tC (.str (PySem.Str.ofString "0^1"))) (tCons (tC (.str (PySem.Str.ofString "2^1^1"))) tNil)))))))))))))) (gName 1))
  (tSeq (tAsg (tOp rCat (tVar 1) (tLst (tCons (tC (.str (PySem.Str.ofString "2^100"))) (tCons (tC (.str (PySem.Str.ofString "2^99"))) (tCons (tC (.str (PySem.Str.ofString "999999999^9"))) (tCons (tC (.str (PySem.Str.ofString "1000000000^1"))) (tCons (tC (.str (PySem.Str.ofString "-2^1"))) (tCons (tC (.str (PySem.Str.ofString "2^-1"))) (tCons (tC (.str (PySem.Str.ofString "+2^1"))) (tCons (tC (.str (PySem.Str.ofString "2^+1"))) tNil)))))))))) (gName 1))
  (tSeq (tAsg (tOp rCat (tVar 1) (tLst (tCons (tC (.str (PySem.Str.ofString "2.0^1"))) (tCons (tC (.str (PySem.Str.ofString "2_0^1"))) (tCons (tC (.str (PySem.Str.ofString "x^1"))) (tCons (tC (.str (PySem.Str.ofString "2^x"))) (tCons (tC (.str (PySem.Str.ofString "2 ^1"))) (tCons (tC (.str (PySem.Str.ofString "2^ 1"))) (tCons (tC (.str (PySem.Str.ofString "2*3"))) (tCons (tC (.str (PySem.Str.ofString "2^1\n"))) (tCons (tC (.str (PySem.Str.ofString "-"))) tNil))))))))))) (gName 1))
  (tSeq (tAsg (tOp rCat (tVar 1) (tLst (tCons (tOp oCatS (tOp oRepS (tC (.str (PySem.Str.ofString "7"))) (tC (.int 900))) (tC (.str (PySem.Str.ofString "^1")))) (tCons (tOp oCatS (tC (.str (PySem.Str.ofString "2^"))) (tOp oRepS (tC (.str (PySem.Str.ofString "7"))) (tC (.int 900)))) tNil)))) (gName 1))
  (tSeq (tAsg (tC (.str (PySem.Str.ofString "!#$'()*./:;<=>?@BMXY[]`{|}~abz"))) (gName 2))
  (tSeq (tAsg (tOp rIxS (tVar 2) (tCall (sp_law_take K) [] E0 (tCons (tVar 0) (tCons (tCB cLenS (tCons (tVar 2) tNil)) tNil)))) (gName 3))
  (tSeq (tAsg (tOp rCat (tVar 1) (tLst (tCons (tVar 3) (tCons (tOp oCatS (tC (.str (PySem.Str.ofString "2^1"))) (tVar 3)) (tCons (tOp oCatS (tOp oCatS (tC (.str (PySem.Str.ofString "2"))) (tVar 3)) (tC (.str (PySem.Str.ofString "1")))) (tCons (tOp oCatS (tVar 3) (tC (.str (PySem.Str.ofString "2^1")))) tNil)))))) (gName 1))
  (tRet (tOp (rIxL K) (tVar 1) (tCall (sp_law_take K) [] E0 (tCons (tVar 0) (tCons (tCB (cLen K) (tCons (tVar 1) tNil)) tNil)))))))))))))
theorem r_law_bad {K : PySem.W.Frag} {vs : List V} {H : Hp} {Q : VK} {E : XK} (h : sp_law_bad K vs H Q E) : t_law_bad K { nx := fun _ H' => Q .non H', rt := Q } (start n_law_bad vs) H := by
  obtain ⟨nd, a, d, t, k, rfl, ha, hk0, hk1, q⟩ := h
  have o : Own (del H a) [(a, dk d t k)] H := .enter ha
  have R1 : (Txt.mul (PySem.Str.ofString "7") 900).length ≤ 1 * 900 := PyProof.Rows.len_mul_leN (by decide +kernel) (by decide)
  have M1 : MulOk (PySem.Str.ofString "7") 900 := PyProof.Rows.mulOk_of 1 900 (by decide +kernel) (by omega) (by omega) (by decide) (by decide)
  refine fg_body (q_setW (w_lstS48 (ws := bad1) o (by repeat (first | exact ea_nil | refine ea_cons ev_c ?_)) (by decide) fun p1 H1 o => ?_))
  refine q_setW (w_op (w_v 1 (w_lstS48 (ws := bad2) o (by repeat (first | exact ea_nil | refine ea_cons ev_c ?_)) (by decide) fun p2 H2 o => w_catS48 o 1 0 rfl rfl (by decide) fun p3 H3 o => ?_)))
  refine q_setW (w_op (w_v 1 (w_lstS48 (ws := bad3) o (by repeat (first | exact ea_nil | refine ea_cons ev_c ?_)) (by decide) fun p4 H4 o => w_catS48 o 1 0 rfl rfl (by decide) fun p5 H5 o => ?_)))
  have hb : ∀ w ∈ (bad1 ++ bad2) ++ bad3, w.length ≤ 1000 := by decide +kernel
  have hbl : ((bad1 ++ bad2) ++ bad3).length = 30 := rfl
  replace o : Own (del H a) [(p5, ((bad1 ++ bad2) ++ bad3).map V.str), (a, dk d t k)] H5 := o.sub ((((((List.Sublist.refl _).cons _).cons _).cons _).cons _).cons₂ _)
  generalize (bad1 ++ bad2) ++ bad3 = ws at o hb hbl
  refine q_setW (w_op (w_v 1 (w_lstS48 (ws := [Txt.mul (PySem.Str.ofString "7") 900 ++ PySem.Str.ofString "^1", PySem.Str.ofString "2^" ++ Txt.mul (PySem.Str.ofString "7") 900]) o (ea_2 (ev_catS (ev_repS ev_c ev_c M1) ev_c ?_) (ev_catS ev_c (ev_repS ev_c ev_c M1) ?_)) (by simp) fun p6 H6 o => w_catS48 o 1 0 rfl rfl (by rw [hbl]; simp) fun p7 H7 o => ?_)))
  · rw [show (PySem.Str.ofString "^1").length = 2 by decide +kernel]; omega
  · rw [show (PySem.Str.ofString "2^").length = 2 by decide +kernel]; omega
  have hb2 : ∀ w ∈ ws ++ [Txt.mul (PySem.Str.ofString "7") 900 ++ PySem.Str.ofString "^1", PySem.Str.ofString "2^" ++ Txt.mul (PySem.Str.ofString "7") 900], w.length ≤ 1000 := fun w hw => by
    rcases List.mem_append.mp hw with hw | hw
    · exact hb w hw
    · simp only [List.mem_cons, List.not_mem_nil, or_false] at hw
      rcases hw with rfl | rfl
      · rw [Str.length_append, show (PySem.Str.ofString "^1").length = 2 by decide +kernel]; omega
      · rw [Str.length_append, show (PySem.Str.ofString "2^").length = 2 by decide +kernel]; omega
  replace o : Own (del H a) [(p7, (ws ++ [Txt.mul (PySem.Str.ofString "7") 900 ++ PySem.Str.ofString "^1", PySem.Str.ofString "2^" ++ Txt.mul (PySem.Str.ofString "7") 900]).map V.str), (a, dk d t k)] H7 := o.sub (((List.Sublist.refl _).cons _).cons _ |>.cons₂ _)
  have hbl2 : (ws ++ [Txt.mul (PySem.Str.ofString "7") 900 ++ PySem.Str.ofString "^1", PySem.Str.ofString "2^" ++ Txt.mul (PySem.Str.ofString "7") 900]).length = 32 := by rw [List.length_append, hbl]; rfl
  clear hb hbl
  generalize ws ++ [Txt.mul (PySem.Str.ofString "7") 900 ++ PySem.Str.ofString "^1", PySem.Str.ofString "2^" ++ Txt.mul (PySem.Str.ofString "7") 900] = ws at o hb2 hbl2
  -- the sign
  refine q_set ev_c ?_
  have od : ∃ od : Str, od = PySem.Str.ofString "!#$'()*./:;<=>?@BMXY[]`{|}~abz" ∧ od.length = 30 := ⟨_, rfl, by decide +kernel⟩
  obtain ⟨od, hod, hodl⟩ := od
  rw [← hod]
  refine q_setW (w_op (w_v 2 (w_callW (w_cons (w_v 0 (w_one (w_ev (ev_lenS (s := od) (ev_v 2) (szc (by omega))) ?_)))))))
  refine o.take (m := (od.length : Int)) 1 rfl ⟨hk0, by omega⟩ (by omega) fun r d k1 H8 hr hk o => ?_
  replace o : Own (del H a) [(p7, ws.map V.str), (a, dk d t k1)] H8 := o
  obtain ⟨c, hc⟩ : ∃ c, atI od.cps.toList r = some c := by
    have : r.toNat < od.cps.toList.length := by
      have : od.cps.toList.length = od.length := by simp [Str.length]
      omega
    have h2 : r = ((r.toNat : Nat) : Int) := by omega
    generalize r.toNat = j at h2 this
    rw [h2]
    exact ⟨_, atI_nat (List.getElem?_eq_getElem this)⟩
  refine ⟨od, r, c, rfl, rfl, szc (by omega), hc, ?_⟩
  have h1 : (⟨#[c]⟩ : Str).length = 1 := rfl
  have l3 : (PySem.Str.ofString "2^1").length = 3 := by decide +kernel
  have l1 : (PySem.Str.ofString "2").length = 1 := by decide +kernel
  have l2 : (PySem.Str.ofString "1").length = 1 := by decide +kernel
  refine q_setW (w_op (w_v 1 (w_lstS48 (ws := [⟨#[c]⟩, PySem.Str.ofString "2^1" ++ ⟨#[c]⟩, PySem.Str.ofString "2" ++ ⟨#[c]⟩ ++ PySem.Str.ofString "1", ⟨#[c]⟩ ++ PySem.Str.ofString "2^1"]) o (ea_cons (ev_v 3) (ea_3 (ev_catS ev_c (ev_v 3) (by omega)) (ev_catS (ev_catS ev_c (ev_v 3) (by omega)) ev_c (by rw [Str.length_append]; omega)) (ev_catS (ev_v 3) ev_c (by omega)))) (by simp) fun p8 H9 o => w_catS48 o 1 0 rfl rfl (by rw [hbl2]; simp) fun p9 H10 o => ?_)))
  have hb3 : ∀ w ∈ ws ++ [⟨#[c]⟩, PySem.Str.ofString "2^1" ++ ⟨#[c]⟩, PySem.Str.ofString "2" ++ ⟨#[c]⟩ ++ PySem.Str.ofString "1", ⟨#[c]⟩ ++ PySem.Str.ofString "2^1"], w.length ≤ 1000 := fun w hw => by
    rcases List.mem_append.mp hw with hw | hw
    · exact hb2 w hw
    · simp only [List.mem_cons, List.not_mem_nil, or_false] at hw
      rcases hw with rfl | rfl | rfl | rfl
      · omega
      · rw [Str.length_append]; omega
      · rw [Str.length_append, Str.length_append]; omega
      · rw [Str.length_append]; omega
  replace o : Own (del H a) [(p9, (ws ++ [⟨#[c]⟩, PySem.Str.ofString "2^1" ++ ⟨#[c]⟩, PySem.Str.ofString "2" ++ ⟨#[c]⟩ ++ PySem.Str.ofString "1", ⟨#[c]⟩ ++ PySem.Str.ofString "2^1"]).map V.str), (a, dk d t k1)] H10 := o.sub (((List.Sublist.refl _).cons _).cons _ |>.cons₂ _)
  have hbl3 : (ws ++ [⟨#[c]⟩, PySem.Str.ofString "2^1" ++ ⟨#[c]⟩, PySem.Str.ofString "2" ++ ⟨#[c]⟩ ++ PySem.Str.ofString "1", ⟨#[c]⟩ ++ PySem.Str.ofString "2^1"]).length = 36 := by rw [List.length_append, hbl2]; rfl
  clear hb2 hbl2
  generalize ws ++ [⟨#[c]⟩, PySem.Str.ofString "2^1" ++ ⟨#[c]⟩, PySem.Str.ofString "2" ++ ⟨#[c]⟩ ++ PySem.Str.ofString "1", ⟨#[c]⟩ ++ PySem.Str.ofString "2^1"] = ws at o hb3 hbl3
  refine s_retW (w_op (w_v 1 (w_callW (w_cons (w_v 0 (w_one (w_ev (ev_len (ev_v 1) (o.sqi 0 rfl)) ?_)))))))
  rw [List.length_map, hbl3]
  refine o.take 1 rfl ⟨by omega, by omega⟩ (by decide) fun r2 d k2 H11 hr2 hk2 o => ?_
  have hlt : r2.toNat < ws.length := by rw [hbl3]; omega
  refine r_ix (v := .str (ws[r2.toNat])) (o.sqi 0 rfl) (at_of (j := r2.toNat) (by omega) (by rw [List.getElem?_map, List.getElem?_eq_getElem hlt]; rfl)) ⟨_, o.exit ha 1 rfl, q _ d k2 (hb3 _ (List.getElem_mem hlt)) (by omega) (by omega)⟩
end Px
set_option Elab.async false
set_option linter.all false
set_option maxRecDepth 100000
set_option maxHeartbeats 4000000
namespace Px
open PySem L2 MA TX TL
local macro_rules | `(tactic| bv_omega) => `(tactic| first | assumption | omega | exact cm (by omega) | exact cd (by omega) | exact cp (by omega) | exact trivial)
local macro_rules | `(tactic| array_get_dec) => `(tactic| first
  | assumption
  | exact sq_up
  | exact Own.sqi (by assumption) 0 (by rfl)
  | exact Own.sqi (by assumption) 1 (by rfl)
  | exact Own.sqi (by assumption) 2 (by rfl)
  | exact Own.sqi (by assumption) 3 (by rfl)
  | exact Own.sqi (by assumption) 4 (by rfl)
  | exact Own.sq (by assumption) (by assumption)
  | exact sq_new (by assumption) (by assumption))
local macro_rules | `(tactic| clean_wf) => `(tactic| first
  | with_reducible exact ev_c
  | (with_reducible apply ev_v') <;> rfl
  | (with_reducible apply ev_add) <;> clean_wf
  | (with_reducible apply ev_sub) <;> clean_wf
  | (with_reducible apply ev_mul) <;> clean_wf
  | (with_reducible apply ev_mod) <;> clean_wf
  | (with_reducible apply ev_div) <;> clean_wf
  | (with_reducible apply ev_pow) <;> clean_wf
  | (with_reducible apply ev_neg) <;> clean_wf
  | (with_reducible apply ev_lt) <;> clean_wf
  | (with_reducible apply ev_le) <;> clean_wf
  | (with_reducible apply ev_gt) <;> clean_wf
  | (with_reducible apply ev_ge) <;> clean_wf
  | (with_reducible apply ev_eqi) <;> clean_wf
  | (with_reducible apply ev_nei) <;> clean_wf
  | (with_reducible apply ev_len) <;> clean_wf
  | (with_reducible apply ev_ixL) <;> clean_wf
  | (with_reducible apply ev_min) <;> clean_wf
  | (with_reducible apply ev_max) <;> clean_wf
  | (with_reducible apply ev_abs) <;> clean_wf
  | (with_reducible apply ev_intB) <;> clean_wf
  | (with_reducible apply ea_1) <;> clean_wf
  | (with_reducible apply ea_2) <;> clean_wf
  | (with_reducible apply ea_3) <;> clean_wf
  | with_reducible exact ea_nil
  | (with_reducible apply ea_cons) <;> clean_wf
  | with_reducible exact el_nil
  | (with_reducible apply ep_lt) <;> clean_wf
  | (with_reducible apply ep_le) <;> clean_wf
  | (with_reducible apply ep_gt) <;> clean_wf
  | (with_reducible apply ep_ge) <;> clean_wf
  | (with_reducible apply ep_eqi) <;> clean_wf
  | (with_reducible apply ep_nei) <;> clean_wf
  | (with_reducible apply ep_not) <;> clean_wf
  | ((with_reducible apply ep_and) <;> first | (intro _; clean_wf; done) | clean_wf)
  | ((with_reducible apply ep_or) <;> first | (intro _; clean_wf; done) | clean_wf)
  | (with_reducible apply et_t) <;> clean_wf
  | (with_reducible apply eo_is) <;> clean_wf
  | with_reducible exact eo_no
  | array_get_dec
  | bv_omega
  | rfl
  | skip)
local macro_rules | `(tactic| symm_saturate) => `(tactic| first
  | ((with_reducible apply q_set); (focus (clean_wf; done)))
  | ((with_reducible apply s_set); (focus (clean_wf; done)))
  | ((with_reducible apply q_aug (hx := rfl)); (focus (clean_wf; done)))
  | ((with_reducible apply s_aug (hx := rfl)); (focus (clean_wf; done)))
  | ((with_reducible apply q_augC (hx := rfl)); (focus (clean_wf; done)))
  | ((with_reducible apply s_augC (hx := rfl)); (focus (clean_wf; done))))
local macro_rules | `(tactic| subst_eqs) => `(tactic| repeat' (first
  | with_reducible apply w_c
  | ((with_reducible apply w_v'); (focus rfl))
  | with_reducible apply w_op
  | with_reducible apply w_cb
  | with_reducible apply w_cons
  | with_reducible apply w_nil
  | with_reducible apply r_add
  | with_reducible apply r_sub
  | ((with_reducible apply r_mul); (focus (bv_omega; done)))
  | ((with_reducible apply r_div); (focus (bv_omega; done)))
  | ((with_reducible apply r_mod); (focus (bv_omega; done)))
  | ((with_reducible apply r_pow); (focus (bv_omega; done)))
  | with_reducible apply r_lt
  | with_reducible apply r_le
  | with_reducible apply r_gt
  | with_reducible apply r_ge
  | with_reducible apply r_min
  | with_reducible apply r_max
  | with_reducible apply r_intB
  | ((with_reducible apply r_len); (focus (array_get_dec; done)))
  | with_reducible apply w_callW
  | with_reducible apply q_setW
  | with_reducible apply s_setW
  | with_reducible apply s_retW))

/-! ### a text spoilt -/
theorem ev_join48 {K : PySem.W.Frag} {B0 H : Hp} {L : List (Addr × List V)} {p : Addr} {ws : List Str} {Q : VK} (o : Own B0 L H) (i : Nat) (hi : L[i]? = some (p, ws.map V.str)) (hl : slen ws + ws.length ≤ 100000) (q : Q (.str (Txt.join B ws)) H) : rJoin K (.str B) [.ref p] H Q :=
  r_join (o.sqi i hi) (by rw [show B.length = 1 by decide +kernel, Nat.mul_one]; unfold slen at hl; omega) q
def sp_law_spoilt (K : PySem.W.Frag) : Sp := fun vs H Q _ => Nod H ∧ ∃ (a : Addr) (d t k : Int) (x : Str), vs = [.ref a, .str x] ∧ H a = some (.lst (dk d t k)) ∧ 0 ≤ k ∧ k < 2 ^ 40 ∧ x.length ≤ 2400 ∧ ∀ (w : Str) (d' k' : Int), w.length ≤ 19990 → k ≤ k' → k' ≤ k + 10 → Q (.str w) (upd H a (.lst (dk d' t k')))
/-- slots: deck text way at sign words last -/
abbrev n_law_spoilt : List Str := ["deck", "text", "way", "at", "sign", "words", "last"]
def t_law_spoilt (K : PySem.W.Frag) : TS := (sFg (tSeq (tAsg (tCall (sp_law_take K) [] E0 (tCons (tVar 0) (tCons (tC (.int 6)) tNil))) (gName 2))
  (tSeq (tAsg (tCall (sp_law_take K) [] E0 (tCons (tVar 0) (tCons (tOp oAdd (tCB cLenS (tCons (tVar 1) tNil)) (tC (.int 1))) tNil))) (gName 3))
  (tSeq (tAsg (tOp rIxS (tC (.str (PySem.Str.ofString " 0129^-a\n*+,.:"))) (tCall (sp_law_take K) [] E0 (tCons (tVar 0) (tCons (tC (.int 14)) tNil)))) (gName 4))
  (tSeq (tIfS (tTest (tOp rEq (tVar 2) (tC (.int 0)))) (tRet (tOp oCatS (tSl rSlS (tVar 1) tNoPart (tPart (tVar 3))) (tSl rSlS (tVar 1) (tPart (tOp oAdd (tVar 3) (tC (.int 1)))) tNoPart))) tNext)
  (tSeq (tIfS (tTest (tOp oLt (tVar 2) (tC (.int 3)))) (tRet (tOp oCatS (tOp oCatS (tSl rSlS (tVar 1) tNoPart (tPart (tVar 3))) (tVar 4)) (tSl rSlS (tVar 1) (tPart (tOp oSub (tOp oAdd (tVar 3) (tVar 2)) (tC (.int 1)))) tNoPart))) tNext)
  (tSeq (tAsg (tM1 rSplit (tVar 1) (tC (.str (PySem.Str.ofString " ")))) (gName 5))
  (tSeq (tAsg (tCall (sp_law_take K) [] E0 (tCons (tVar 0) (tCons (tOp oAdd (tCB (cLen K) (tCons (tVar 5) tNil)) (tC (.int 1))) tNil))) (gName 3))
  (tSeq (tIfS (tTest (tOp rEq (tVar 2) (tC (.int 3)))) (tSeq (tAsg (tOp rCat (tSl (rSlL K) (tVar 5) (tPart (tVar 3)) (tPart (tOp oAdd (tVar 3) (tC (.int 1))))) (tSl (rSlL K) (tVar 5) (tPart (tOp oAdd (tVar 3) (tC (.int 2)))) tNoPart)) (gName 6))
  (tRet (tM1 (rJoin K) (tC (.str (PySem.Str.ofString " "))) (tOp rCat (tOp rCat (tSl (rSlL K) (tVar 5) tNoPart (tPart (tVar 3))) (tSl (rSlL K) (tVar 5) (tPart (tOp oAdd (tVar 3) (tC (.int 1)))) (tPart (tOp oAdd (tVar 3) (tC (.int 2)))))) (tVar 6))))) tNext)
  (tRet (tM1 (rJoin K) (tC (.str (PySem.Str.ofString " "))) (tOp rCat (tOp rCat (tSl (rSlL K) (tVar 5) tNoPart (tPart (tVar 3))) (tLst (tCons (tCall (sp_law_bad K) [] E0 (tCons (tVar 0) tNil)) tNil))) (tSl (rSlL K) (tVar 5) (tPart (tOp oSub (tOp oAdd (tVar 3) (tVar 2)) (tC (.int 4)))) tNoPart)))))))))))))
theorem r_law_spoilt {K : PySem.W.Frag} {vs : List V} {H : Hp} {Q : VK} {E : XK} (h : sp_law_spoilt K vs H Q E) : t_law_spoilt K { nx := fun _ H' => Q .non H', rt := Q } (start n_law_spoilt vs) H := by
  obtain ⟨nd, a, d, t, k, x, rfl, ha, hk0, hk1, hx, q⟩ := h
  have o : Own (del H a) [(a, dk d t k)] H := .enter ha
  refine fg_body (q_setW (w_callW (w_cons (w_v 0 (w_one (w_c ?_))))))
  refine o.take 0 rfl ⟨hk0, by omega⟩ (by omega) fun way d k1 H1 hway hk2 o => ?_
  replace o : Own (del H a) [(a, dk d t k1)] H1 := o
  refine q_setW (w_callW (w_cons (w_v 0 (w_one (w_ev (ev_add (i := (x.length : Int)) (ev_lenS (ev_v 1) (szc (by omega))) ev_c) ?_)))))
  refine o.take (m := (x.length : Int) + 1) 0 rfl ⟨by omega, by omega⟩ (by omega) fun at1 d k2 H2 hat hk3 o => ?_
  replace o : Own (del H a) [(a, dk d t k2)] H2 := o
  have sg : ∃ sg : Str, sg = PySem.Str.ofString " 0129^-a\n*+,.:" ∧ sg.length = 14 := ⟨_, rfl, by decide +kernel⟩
  obtain ⟨sg, hsg, hsgl⟩ := sg
  rw [← hsg]
  refine q_setW (w_op (w_c (w_callW (w_cons (w_v 0 (w_one (w_c ?_)))))))
  refine o.take 0 rfl ⟨by omega, by omega⟩ (by omega) fun r d k3 H3 hr hk4 o => ?_
  replace o : Own (del H a) [(a, dk d t k3)] H3 := o
  obtain ⟨c, hc⟩ : ∃ c, atI sg.cps.toList r = some c := by
    have : r.toNat < sg.cps.toList.length := by
      have : sg.cps.toList.length = sg.length := by simp [Str.length]
      omega
    have h2 : r = ((r.toNat : Nat) : Int) := by omega
    generalize r.toNat = j at h2 this
    rw [h2]
    exact ⟨_, atI_nat (List.getElem?_eq_getElem this)⟩
  refine ⟨sg, r, c, rfl, rfl, szc (by omega), hc, ?_⟩
  have h1 : (⟨#[c]⟩ : Str).length = 1 := rfl
  have cl : ∀ lo hi, (cutS x lo hi).length ≤ 2400 := fun lo hi => Nat.le_trans (cutS_length x lo hi) hx
  refine q_whenP (ep_eqi (ev_v 2) ev_c) (fun _ => ?_) fun w0 => ?_
  · refine s_ret (ev_catS (ev_cutS (ev_v 1) eo_no (eo_is (ev_v 3)) (szc (by omega))) (ev_cutS (ev_v 1) (eo_is (ev_add (i := at1) (ev_v 3) ev_c)) eo_no (szc (by omega))) ?_) ⟨_, o.exit ha 0 rfl, q _ d k3 ?_ (by omega) (by omega)⟩
    · have := cl none (some at1); have := cl (some (at1 + 1)) none; omega
    · rw [Str.length_append]; have := cl none (some at1); have := cl (some (at1 + 1)) none; omega
  refine q_whenP (ep_lt (i := way) (ev_v 2) ev_c) (fun _ => ?_) fun w1 => ?_
  · refine s_ret (ev_catS (ev_catS (ev_cutS (ev_v 1) eo_no (eo_is (ev_v 3)) (szc (by omega))) (ev_v 4) ?_) (ev_cutS (ev_v 1) (eo_is (ev_sub (i := at1 + way) (ev_add (i := at1) (j := way) (ev_v 3) (ev_v 2)) ev_c)) eo_no (szc (by omega))) ?_) ⟨_, o.exit ha 0 rfl, q _ d k3 ?_ (by omega) (by omega)⟩
    · have := cl none (some at1); omega
    · rw [Str.length_append]; have := cl none (some at1); have := cl (some (at1 + way - 1)) none; omega
    · rw [Str.length_append, Str.length_append]; have := cl none (some at1); have := cl (some (at1 + way - 1)) none; omega
  -- words
  have hsl : (Txt.split x B).length ≤ x.length + 2 := PyProof.Rows.split_le x B
  have hss : slen (Txt.split x B) ≤ x.length := slen_split tlB kB
  refine q_setW (w_split (ev_v 1) ev_c (by decide +kernel) (szc (by omega)) fun pw hpw => ?_)
  replace o := o.new (xs := (Txt.split x B).map V.str) hpw
  change Own (del H a) [(pw, (Txt.split x B).map V.str), (a, dk d t k3)] (upd H3 pw (.lst ((Txt.split x B).map V.str))) at o
  change tSeq _ _ _ _ (upd H3 pw (.lst ((Txt.split x B).map V.str)))
  generalize Txt.split x B = ws at o hsl hss ⊢
  refine q_setW (w_callW (w_cons (w_v 0 (w_one (w_ev (ev_add (i := ((ws.map V.str).length : Int)) (ev_len (ev_v 5) (o.sqi 0 rfl)) ev_c) ?_)))))
  rw [List.length_map]
  refine o.take (m := (ws.length : Int) + 1) 1 rfl ⟨by omega, by omega⟩ (by omega) fun at2 d k4 H4 hat2 hk5 o => ?_
  replace o : Own (del H a) [(pw, ws.map V.str), (a, dk d t k4)] H4 := o
  have sl : ∀ zs : List Str, zs.Sublist ws → slen zs ≤ 2400 ∧ zs.length ≤ 2402 := fun zs h => ⟨Nat.le_trans (slen_sub h) (by omega), Nat.le_trans h.length_le (by omega)⟩
  have ev1 : ∀ {σ : L2.St} {H : Hp}, σ[3]? = some (some (.int at2)) → Ev (tOp oAdd (tVar 3) (tC (.int 1))) σ H (.int (at2 + 1)) := fun h => ev_add (ev_v' h) ev_c
  have ev2 : ∀ {σ : L2.St} {H : Hp}, σ[3]? = some (some (.int at2)) → Ev (tOp oAdd (tVar 3) (tC (.int 2))) σ H (.int (at2 + 2)) := fun h => ev_add (ev_v' h) ev_c
  refine q_whenP (ep_eqi (i := way) (ev_v 2) ev_c) (fun _ => ?_) fun w2 => ?_
  · refine q_setW (w_op (w_slS48 o 0 rfl (ev_v 5) (eo_is (ev_v 3)) (eo_is (ev1 rfl)) fun q1 z1 H5 s1 o => w_slS48 o 1 rfl (ev_v 5) (eo_is (ev2 rfl)) eo_no fun q2 z2 H6 s2 o => w_catS48 o 1 0 rfl rfl ?_ fun q3 H7 o => ?_))
    · have := sl z1 s1; have := sl z2 s2; omega
    refine s_retW (w_join (a := B) ev_c (w_op (w_op (w_slS48 o 3 rfl (ev_v 5) eo_no (eo_is (ev_v 3)) fun q4 z4 H8 s4 o => w_slS48 o 4 rfl (ev_v 5) (eo_is (ev1 rfl)) (eo_is (ev2 rfl)) fun q5 z5 H9 s5 o => w_catS48 o 1 0 rfl rfl ?_ fun q6 H10 o => w_v 6 (w_catS48 o 0 3 rfl rfl ?_ fun q7 H11 o => ?_)))))
    · have := sl z4 s4; have := sl z5 s5; omega
    · have := sl z4 s4; have := sl z5 s5; have := sl z1 s1; have := sl z2 s2; rw [List.length_append, List.length_append]; omega
    have e1 := sl z1 s1
    have e2 := sl z2 s2
    have e4 := sl z4 s4
    have e5 := sl z5 s5
    have hlen : slen (z4 ++ z5 ++ (z1 ++ z2)) + (z4 ++ z5 ++ (z1 ++ z2)).length ≤ 19990 := by
      rw [slen_app, slen_app, slen_app, List.length_append, List.length_append, List.length_append]; omega
    exact ev_join48 o 0 rfl (Nat.le_trans hlen (by decide)) ⟨_, o.exit ha 8 rfl, q _ d k4 (Nat.le_trans (join_len48 _) hlen) (by omega) (by omega)⟩
  · refine s_retW (w_join (a := B) ev_c (w_op (w_op (w_slS48 o 0 rfl (ev_v 5) eo_no (eo_is (ev_v 3)) fun q1 z1 H5 s1 o => w_lst (w_one (w_callW (w_one (w_v 0 ⟨o.nod, a, d, t, k4, rfl, o.atI 2 rfl, by omega, by omega, fun w d k5 hw hk6 hk7 => ⟨by show 1 ≤ sizeLine; decide, fun q2 hq2 => ?_⟩⟩))))))))
    replace o := o.mut (ys := dk d t k5) 2 rfl
    replace o : Own (del H a) [(q1, z1.map V.str), (pw, ws.map V.str), (a, dk d t k5)] (upd H5 a (.lst (dk d t k5))) := o
    replace o := o.new (xs := [w].map V.str) hq2
    refine w_catS48 (ys := [w]) o 1 0 rfl rfl ?_ fun q3 H6 o => w_slS48 o 3 rfl (ev_v 5) (eo_is (ev_sub (i := at2 + way) (ev_add (i := at2) (j := way) (ev_v 3) (ev_v 2)) ev_c)) eo_no fun q4 z4 H7 s4 o => w_catS48 o 1 0 rfl rfl ?_ fun q5 H8 o => ?_
    · have := sl z1 s1; simp; omega
    · have := sl z1 s1; have := sl z4 s4; simp; omega
    have e1 := sl z1 s1
    have e4 := sl z4 s4
    have hlen : slen (z1 ++ [w] ++ z4) + (z1 ++ [w] ++ z4).length ≤ 19990 := by
      rw [slen_app, slen_app, List.length_append, List.length_append, show slen [w] = w.length by simp [slen], show [w].length = 1 from rfl]; omega
    exact ev_join48 o 0 rfl (Nat.le_trans hlen (by decide)) ⟨_, o.exit ha 6 rfl, q _ d k5 (Nat.le_trans (join_len48 _) hlen) (by omega) (by omega)⟩
end Px
set_option Elab.async false
set_option linter.all false
set_option maxRecDepth 100000
set_option maxHeartbeats 4000000
namespace Px
open PySem L2 MA TX TL
local macro_rules | `(tactic| bv_omega) => `(tactic| first | assumption | omega | exact cm (by omega) | exact cd (by omega) | exact cp (by omega) | exact trivial)
local macro_rules | `(tactic| array_get_dec) => `(tactic| first
  | assumption
  | exact sq_up
  | exact Own.sqi (by assumption) 0 (by rfl)
  | exact Own.sqi (by assumption) 1 (by rfl)
  | exact Own.sqi (by assumption) 2 (by rfl)
  | exact Own.sqi (by assumption) 3 (by rfl)
  | exact Own.sqi (by assumption) 4 (by rfl)
  | exact Own.sq (by assumption) (by assumption)
  | exact sq_new (by assumption) (by assumption))
local macro_rules | `(tactic| clean_wf) => `(tactic| first
  | with_reducible exact ev_c
  | (with_reducible apply ev_v') <;> rfl
  | (with_reducible apply ev_add) <;> clean_wf
  | (with_reducible apply ev_sub) <;> clean_wf
  | (with_reducible apply ev_mul) <;> clean_wf
  | (with_reducible apply ev_mod) <;> clean_wf
  | (with_reducible apply ev_div) <;> clean_wf
  | (with_reducible apply ev_pow) <;> clean_wf
  | (with_reducible apply ev_neg) <;> clean_wf
  | (with_reducible apply ev_lt) <;> clean_wf
  | (with_reducible apply ev_le) <;> clean_wf
  | (with_reducible apply ev_gt) <;> clean_wf
  | (with_reducible apply ev_ge) <;> clean_wf
  | (with_reducible apply ev_eqi) <;> clean_wf
  | (with_reducible apply ev_nei) <;> clean_wf
  | (with_reducible apply ev_len) <;> clean_wf
  | (with_reducible apply ev_ixL) <;> clean_wf
  | (with_reducible apply ev_min) <;> clean_wf
  | (with_reducible apply ev_max) <;> clean_wf
  | (with_reducible apply ev_abs) <;> clean_wf
  | (with_reducible apply ev_intB) <;> clean_wf
  | (with_reducible apply ea_1) <;> clean_wf
  | (with_reducible apply ea_2) <;> clean_wf
  | (with_reducible apply ea_3) <;> clean_wf
  | with_reducible exact ea_nil
  | (with_reducible apply ea_cons) <;> clean_wf
  | with_reducible exact el_nil
  | (with_reducible apply ep_lt) <;> clean_wf
  | (with_reducible apply ep_le) <;> clean_wf
  | (with_reducible apply ep_gt) <;> clean_wf
  | (with_reducible apply ep_ge) <;> clean_wf
  | (with_reducible apply ep_eqi) <;> clean_wf
  | (with_reducible apply ep_nei) <;> clean_wf
  | (with_reducible apply ep_not) <;> clean_wf
  | ((with_reducible apply ep_and) <;> first | (intro _; clean_wf; done) | clean_wf)
  | ((with_reducible apply ep_or) <;> first | (intro _; clean_wf; done) | clean_wf)
  | (with_reducible apply et_t) <;> clean_wf
  | (with_reducible apply eo_is) <;> clean_wf
  | with_reducible exact eo_no
  | array_get_dec
  | bv_omega
  | rfl
  | skip)
local macro_rules | `(tactic| symm_saturate) => `(tactic| first
  | ((with_reducible apply q_set); (focus (clean_wf; done)))
  | ((with_reducible apply s_set); (focus (clean_wf; done)))
  | ((with_reducible apply q_aug (hx := rfl)); (focus (clean_wf; done)))
  | ((with_reducible apply s_aug (hx := rfl)); (focus (clean_wf; done)))
  | ((with_reducible apply q_augC (hx := rfl)); (focus (clean_wf; done)))
  | ((with_reducible apply s_augC (hx := rfl)); (focus (clean_wf; done))))
local macro_rules | `(tactic| subst_eqs) => `(tactic| repeat' (first
  | with_reducible apply w_c
  | ((with_reducible apply w_v'); (focus rfl))
  | with_reducible apply w_op
  | with_reducible apply w_cb
  | with_reducible apply w_cons
  | with_reducible apply w_nil
  | with_reducible apply r_add
  | with_reducible apply r_sub
  | ((with_reducible apply r_mul); (focus (bv_omega; done)))
  | ((with_reducible apply r_div); (focus (bv_omega; done)))
  | ((with_reducible apply r_mod); (focus (bv_omega; done)))
  | ((with_reducible apply r_pow); (focus (bv_omega; done)))
  | with_reducible apply r_lt
  | with_reducible apply r_le
  | with_reducible apply r_gt
  | with_reducible apply r_ge
  | with_reducible apply r_min
  | with_reducible apply r_max
  | with_reducible apply r_intB
  | ((with_reducible apply r_len); (focus (array_get_dec; done)))
  | with_reducible apply w_callW
  | with_reducible apply q_setW
  | with_reducible apply s_setW
  | with_reducible apply s_retW))

theorem slen_le {m : Nat} : ∀ {ws : List Str}, (∀ w ∈ ws, w.length ≤ m) → slen ws ≤ m * ws.length
  | [], _ => by simp [slen]
  | w :: ws, h => by
    have h1 := h w List.mem_cons_self
    have h2 := slen_le (ws := ws) fun v hv => h v (List.mem_cons_of_mem _ hv)
    unfold slen at *
    rw [List.map_cons, List.sum_cons, List.length_cons, Nat.mul_succ]
    omega
def sp_law_text (K : PySem.W.Frag) : Sp := fun vs H Q _ => Nod H ∧ ∃ (a : Addr) (d t k : Int), vs = [.ref a] ∧ H a = some (.lst (dk d t k)) ∧ 0 ≤ k ∧ k < 1000 ∧ ∀ (w : Str) (d' k' : Int), w.length ≤ 2400 → k ≤ k' → k' ≤ k + 10000 → Q (.str w) (upd H a (.lst (dk d' t k')))
/-- slots: deck numbers k words number -/
abbrev n_law_text : List Str := ["deck", "numbers", "k", "words", "number"]
def t_law_text (K : PySem.W.Frag) : TS := (sFg (tSeq (tAsg tDNewK (gName 1))
  (tSeq (tFor (iRng1 (tCons (tCall (sp_law_take K) [] E0 (tCons (tVar 0) (tCons (tOp (rIxL K) (tLst (tCons (tC (.int 9)) (tCons (tC (.int 180)) tNil))) (tCB cInt (tCons (tOp rEq (tCall (sp_law_take K) [] E0 (tCons (tVar 0) (tCons (tC (.int 6)) tNil))) (tC (.int 0))) tNil))) tNil))) tNil)) (gName 2) (sDPut (tVar 1) (tOp oAdd (tC (.int 2)) (tCall (sp_law_take K) [] E0 (tCons (tVar 0) (tCons (tOp (rIxL K) (tLst (tCons (tC (.int 9)) (tCons (tC (.int 300)) (tCons (tOp oSub (tOp oPow (tC (.int 10)) (tC (.int 9))) (tC (.int 2))) tNil)))) (tCall (sp_law_take K) [] E0 (tCons (tVar 0) (tCons (tC (.int 3)) tNil)))) tNil)))) (tC (.bl true))))
  (tSeq (tAsg (tLc (iList K (tCB rSortDK (tCons (tVar 1) tNil))) (gName 4) tYes (tOp oCatS (tOp oCatS (tCB cStr (tCons (tVar 4) tNil)) (tC (.str (PySem.Str.ofString "^")))) (tCB cStr (tCons (tOp oAdd (tC (.int 1)) (tCall (sp_law_take K) [] E0 (tCons (tVar 0) (tCons (tC (.int 12)) tNil)))) tNil))) [4]) (gName 3))
  (tRet (tIf (tTest (tOp (rEqD K) (tVar 3) (tLst tNil))) (tC (.str (PySem.Str.ofString "1"))) (tM1 (rJoin K) (tC (.str (PySem.Str.ofString " "))) (tVar 3))))))))
theorem r_law_text {K : PySem.W.Frag} {vs : List V} {H : Hp} {Q : VK} {E : XK} (h : sp_law_text K vs H Q E) : t_law_text K { nx := fun _ H' => Q .non H', rt := Q } (start n_law_text vs) H := by
  obtain ⟨nd, a, d, t, k, rfl, ha, hk0, hk1, q⟩ := h
  refine fg_body (q_setW fun pd hpd => ?_)
  have c : Dk2 H a pd t d k [] (upd H pd (.dK (([] : List Int).map bK))) := ⟨nod_upd nd trivial, fun b u hb => by
    have : b ≠ pd := fun z => by rw [z] at hb; unfold del at hb; split at hb <;> simp_all
    rw [upd_ne this]; exact del_ex b u hb, by rw [upd_ne (ne_of_none ha hpd)]; exact ha, upd_same⟩
  change tSeq _ _ _ _ (upd H pd (.dK (([] : List Int).map bK)))
  -- how many
  refine q_seq (w_forR1 (w_one (w_callW (w_cons (w_v 0 (w_one (w_op (el_lst (ea_2 ev_c ev_c) (by simp) _ fun p1 hp1 => ?_))))))))
  replace c := c.tmp (xs := [.int 9, .int 180]) hp1
  have h1 : upd (upd H pd (.dK (([] : List Int).map bK))) p1 (.lst [.int 9, .int 180]) p1 = some (.lst [.int 9, .int 180]) := upd_same
  have hne : p1 ≠ a := fun z => by have := c.ha; rw [← z, h1] at this; cases this
  refine w_cb (w_one (w_op (w_callW (w_cons (w_v 0 (w_one (w_c ?_)))))))
  refine c.take ⟨hk0, by omega⟩ (by omega) fun r d k1 H2 hr hk c hH => ?_
  rw [← hH p1 hne] at h1
  refine w_c ⟨rfl, r_intB ?_⟩
  obtain ⟨m, hm, hm1⟩ : ∃ m : Int, atI [V.int 9, .int 180] (if decide (V.int r = V.int 0) then 1 else 0) = some (.int m) ∧ 0 < m ∧ m ≤ 180 := by
    by_cases z : V.int r = V.int 0
    · rw [decide_eq_true z]; exact ⟨180, rfl, by omega, by omega⟩
    · rw [decide_eq_false z]; exact ⟨9, rfl, by omega, by omega⟩
  refine r_ix (sq_at h1) hm ?_
  refine c.take ⟨by omega, by omega⟩ (by omega) fun n d k2 H3 hn hk2 c _ => ?_
  refine ⟨n, rfl, by omega, by omega, ?_⟩
  clear h1 hH hm
  refine lp_range (k := n.toNat) (fun i σ' H' => ∃ (ks : List Int) (d k3 : Int) (y : Option V), σ' = [some (.ref a), some (.ref pd), y, none, none] ∧ Dk2 H a pd t d k3 ks H' ∧ ks.Nodup ∧ (∀ x ∈ ks, 2 ≤ x ∧ x < 10 ^ 9) ∧ ks.length ≤ i ∧ k ≤ k3 ∧ k3 ≤ k + 2 + 2 * i) ⟨[], d, k2, none, rfl, c, by simp, by simp, by simp, by omega, by omega⟩ (fun i σ' H' hi hI => ?_) fun σ' H' hI => ?_
  · clear c
    obtain ⟨ks, d, k3, y, rfl, c, hnd, hks, hl, hk0', hk1'⟩ := hI
    refine w_c (w_v 1 (w_op (w_c (w_callW (w_cons (w_v 0 (w_one (w_op (el_lst (ea_3 ev_c ev_c (ev_sub (ev_pow ev_c ev_c (cp (by decide))) ev_c)) (by simp) _ fun p2 hp2 => ?_)))))))))
    rw [i9]
    have hne : p2 ≠ a := fun z => by have := c.ha; rw [← z, hp2] at this; cases this
    replace c := c.tmp (xs := [.int 9, .int 300, .int (1000000000 - 2)]) hp2
    have h1 : upd H' p2 (.lst [.int 9, .int 300, .int (1000000000 - 2)]) p2 = some (.lst [.int 9, .int 300, .int (1000000000 - 2)]) := upd_same
    refine w_callW (w_cons (w_v 0 (w_one (w_c ?_))))
    refine c.take ⟨by omega, by omega⟩ (by omega) fun r d k1 H2 hr hk c hH => ?_
    rw [← hH p2 hne] at h1
    obtain ⟨m, hm, hm1⟩ : ∃ m : Int, atI [V.int 9, .int 300, .int (1000000000 - 2)] r = some (.int m) ∧ 0 < m ∧ m ≤ 999999998 := by
      rcases (by omega : r = 0 ∨ r = 1 ∨ r = 2) with rfl | rfl | rfl
      · exact ⟨9, rfl, by omega, by omega⟩
      · exact ⟨300, rfl, by omega, by omega⟩
      · exact ⟨1000000000 - 2, rfl, by omega, by omega⟩
    refine r_ix (sq_at h1) hm ?_
    refine c.take ⟨by omega, by omega⟩ (by omega) fun n d k2 H3 hn hk2 c _ => ?_
    refine r_add ⟨pd, _, rfl, DPut.k (k := Sum.inl (2 + n)) c.hp (by rw [List.length_map]; exact szl (by omega)), ?_⟩
    rw [put_bK]
    refine ⟨if (2 + n) ∈ ks then ks else ks ++ [2 + n], d, k2, _, rfl, c.put hpd, ?_, ?_, ?_, by omega, by omega⟩
    · split
      · exact hnd
      · rename_i z
        rw [List.nodup_append]
        exact ⟨hnd, by simp, fun x hx y hy => by rw [List.mem_singleton.mp hy]; exact fun w => z (w ▸ hx)⟩
    · intro x hx
      split at hx
      · exact hks x hx
      · rcases List.mem_append.mp hx with hx | hx
        · exact hks x hx
        · rw [List.mem_singleton.mp hx]; omega
    · split
      · omega
      · simp; omega
  · clear c
    obtain ⟨ks, d, k3, y, rfl, c, hnd, hks, hl, hk0', hk1'⟩ := hI
    dsimp only
    -- the words
    have o : Own (del H' a) [(a, dk d t k3)] H' := have := c.nod; .enter c.ha
    have eB : Ex (del H a) (del H' a) := fun b u hb => by
      have z : b ≠ a := fun z => by rw [z, del_at] at hb; cases hb
      rw [del_ne z]; exact c.ex b u hb
    refine q_setW (w_lcLW (w_cb (w_one (w_v 1 ⟨pd, ks.map bK, ks, rfl, c.hp, by rw [List.map_map]; rfl, fun ys p1 hperm hsort hp1 => ⟨p1, rfl, ⟨_, sq_up⟩, ?_⟩⟩))))
    replace o := o.new (xs := ys.map V.int) hp1
    have hyl : ys.length ≤ 180 := by rw [hperm.length_eq]; omega
    have hys : ∀ x ∈ ys, 2 ≤ x ∧ x < 10 ^ 9 := fun x hx => hks x (hperm.mem_iff.mp hx)
    refine lcat_list (K := K) (xs := ys.map V.int) (fun D j H2 => ∃ (ws : List Str) (d k4 : Int), ws.length = j ∧ (∀ w ∈ ws, w.length ≤ 12 ∧ PyData.strOk w = true) ∧ Own (del H' a) [(D, ws.map V.str), (p1, ys.map V.int), (a, dk d t k4)] H2 ∧ k ≤ k4 ∧ k4 ≤ k + 400 + j)
      (fun D hD => ⟨[], d, k3, rfl, by simp, o.new hD, by omega, by omega⟩) (fun D j H2 hD hv => ?_) (fun D j v H2 hD hj hI => ?_) fun D H2 hD hI => ?_
    · obtain ⟨_, _, _, _, _, o, _⟩ := hv
      exact o.sqi 1 rfl
    · clear o c
      obtain ⟨ws, d, k4, hwl, hws, o, h0, h1⟩ := hI
      rw [List.getElem?_map] at hj
      cases ez : ys[j]? with
      | none => rw [ez] at hj; cases hj
      | some z =>
        rw [ez] at hj
        cases hj
        have hlt := (List.getElem?_eq_some_iff.mp ez).1
        have hz := hys z (List.mem_of_getElem? ez)
        have cl : (PySem.Str.ofString "^").length = 1 := by decide +kernel
        have l1 := sI_le (i := z) (k := 9) (by omega) (by decide) hz.2
        refine ⟨rfl, et_yes _ (iteT (w_op (w_ev (ev_catS (ev_strI (i := z) (ev_v 4) (by omega)) ev_c (by omega)) (w_cb (w_one (w_op (w_c (w_callW (w_cons (w_v 0 (w_one (w_c ?_)))))))))))) ⟩
        refine o.take 2 rfl ⟨by omega, by omega⟩ (by omega) fun r d k5 H3 hr hk o => ?_
        replace o : Own (del H' a) [(D, ws.map V.str), (p1, ys.map V.int), (a, dk d t k5)] H3 := o
        have l2 := sI_le (i := 1 + r) (k := 2) (by omega) (by decide) (by omega)
        refine r_add ⟨_, rfl, lgb (by omega), _, _, rfl, rfl, szc ?_, _, o.atI 0 rfl, szl (by rw [List.length_map]; omega), ws ++ [sI z ++ PySem.Str.ofString "^" ++ sI (1 + r)], d, k5, by simp [hwl], fun w hw => ?_, ?_, by omega, by omega⟩
        · rw [Str.length_append]
          show (sI z).length + _ + (sI (1 + r)).length ≤ _
          omega
        · rcases List.mem_append.mp hw with hw | hw
          · exact hws w hw
          · rw [List.mem_singleton.mp hw]
            exact ⟨by rw [Str.length_append, Str.length_append]; omega, ok_app (ok_app (ok_of _) (ok_of _)) (ok_of _)⟩
        · rw [List.map_append]
          exact o.mut 0 rfl
    · clear o
      obtain ⟨ws, d, k4, hwl, hws, o, h0, h1⟩ := hI
      rw [List.length_map] at hwl h1
      have hsl : slen ws + ws.length ≤ 2400 := by
        have := slen_le fun w hw => (hws w hw).1
        omega
      have o2 : Own (del H a) [(D, ws.map V.str), (p1, ys.map V.int), (a, dk d t k4)] H2 := ⟨o.nod, ex_trans eB o.ex, fun p hp => ex_none eB (o.off p hp), o.dis, o.has⟩
      refine s_retW (w_if (w_tst (w_op (w_v 3 (el_nil _ fun pe hpe => rv_eqS0 (fun w hw => (hws w hw).2) (sq_new hpe (o2.sqi 0 rfl)) sq_up _ ⟨_, rfl, ?_⟩)))))
      have o3 := o2.tmp (xs := []) hpe
      refine by_dec (fun _ => w_c ⟨_, o3.exit ha 2 rfl, q _ d k4 (by decide +kernel) (by omega) (by omega)⟩) fun _ => ?_
      exact w_join (a := B) ev_c (w_v 3 (ev_join48 o3 0 rfl (by omega) ⟨_, o3.exit ha 2 rfl, q _ d k4 (Nat.le_trans (join_len48 _) hsl) (by omega) (by omega)⟩))
theorem el_lcR48 {σ : L2.St} {H : Hp} {n : Nat} {t : TT} {te : TE} {ta : TA} {lo k : Int} {vs : List Nat} (p : Int → Bool) (f : Int → V) (h : EvA ta σ H [.int lo, .int k]) (hk : -(2 ^ 62) ≤ lo ∧ lo < 2 ^ 62 ∧ -(2 ^ 62) ≤ k ∧ k < 2 ^ 62 ∧ k - lo ≤ 16000000) (hw : ∀ x, wipe ((wipe σ vs).set n (some x)) vs = wipe σ vs)
    (ht : ∀ i : Int, lo ≤ i → i < k → ∀ D acc, H D = none → EvT t ((wipe σ vs).set n (some (.int i))) (upd H D (.lst acc)) (p i)) (he : ∀ i : Int, lo ≤ i → i < k → p i = true → ∀ D acc, H D = none → Ev te ((wipe σ vs).set n (some (.int i))) (upd H D (.lst acc)) (f i)) :
    EvL (tLc (iRng2 ta) (gName n) t te vs) σ H ((((List.range (k - lo).toNat).map fun (i : Nat) => lo + (i : Int)).filter p).map f) := fun Q q => h _ ⟨lo, k, rfl, ⟨hk.1, hk.2.1, hk.2.2.1, hk.2.2.2.1⟩, fun D hD =>
  lc_range (lo := lo) (n := (k - lo).toNat) (fun i H' => H' = upd H D (.lst ((((List.range i).map fun (i : Nat) => lo + (i : Int)).filter p).map f))) (by simp) (fun i H' hi e => by
    subst e
    refine ⟨hw _, ht (lo + i) (by omega) (by omega) D _ hD _ ?_⟩
    rw [List.range_succ, List.map_append, List.filter_append, List.map_append]
    have hlen : ((((List.range i).map fun (i : Nat) => lo + (i : Int)).filter p).map f).length < sizeLine := by
      rw [List.length_map]
      refine Nat.lt_of_le_of_lt (List.length_filter_le _ _) ?_
      rw [List.length_map, List.length_range]
      exact szl (by omega)
    cases hp : p (lo + (i : Int)) with
    | true =>
      refine iteT (he (lo + i) (by omega) (by omega) hp D _ hD _ ⟨_, upd_same, hlen, ?_⟩)
      rw [upd_upd]
      congr 2
      simp [hp]
    | false =>
      refine iteF ?_
      congr 2
      simp [hp]) (fun H' e => by subst e; exact q D hD)⟩
theorem w_right {K : PySem.W.Frag} {H : Hp} {x : Str} {Q : VK} {E : XK} (n : Nod H) (hx : x.length ≤ 19990) (q : Q (.bl true) H) : sp_law_right K ([.str x] ++ []) H Q E := ⟨n, x, rfl, hx, q⟩
def sp_law (K : PySem.W.Frag) : Sp := fun vs H Q _ => Nod H ∧ ∃ (a : Addr) (ns : List Int), vs = [.ref a] ∧ SqL K H a (ns.map V.int) ∧ ns.length ≤ 63 ∧ ∀ H', Q (.bl true) H'
/-- slots: script cell deck text great number -/
abbrev n_law : List Str := ["script", "cell", "deck", "text", "great", "number"]
def t_law (K : PySem.W.Frag) : TS := (sFg (tSeq (tFor (iList K (tOp rCat (tSl (rSlL K) (tVar 0) tNoPart (tPart (tC (.int 40)))) (tLst (tCons (tC (.int 0)) (tCons (tC (.int 1)) tNil))))) (gName 1) (tSeq (tAsg (tCall (sp_law_deck K) [] E0 (tCons (tVar 1) (tCons (tC (.int 5)) tNil))) (gName 2))
  (tSeq (tAsg (tCall (sp_law_text K) [] E0 (tCons (tVar 2) tNil)) (gName 3))
  (tIfS (tOr (tNot (tB (tCall (sp_law_right K) [] E0 (tCons (tVar 3) tNil)))) (tNot (tB (tCall (sp_law_right K) [] E0 (tCons (tCall (sp_law_spoilt K) [] E0 (tCons (tVar 2) (tCons (tVar 3) tNil))) tNil))))) (tRet (tC (.bl false))) tNext))))
  (tSeq (tAsg (tLc (iRng2 (tCons (tC (.int 2)) (tCons (tC (.int 500)) tNil))) (gName 5) tYes (tOp oCatS (tCB cStr (tCons (tVar 5) tNil)) (tC (.str (PySem.Str.ofString "^1")))) [5]) (gName 4))
  (tSeq (tIfS (tOr (tNot (tB (tCall (sp_law_right K) [] E0 (tCons (tM1 (rJoin K) (tC (.str (PySem.Str.ofString " "))) (tVar 4)) tNil)))) (tNot (tB (tCall (sp_law_right K) [] E0 (tCons (tOp oRepS (tC (.str (PySem.Str.ofString "7"))) (tC (.int 3000))) tNil))))) (tRet (tC (.bl false))) tNext)
  (tRet (tCall (sp_law_right K) [] E0 (tCons (tM1 (rJoin K) (tC (.str (PySem.Str.ofString " "))) (tOp rCat (tVar 4) (tLst (tCons (tC (.str (PySem.Str.ofString "2^1"))) tNil)))) tNil)))))))
theorem r_law {K : PySem.W.Frag} {vs : List V} {H : Hp} {Q : VK} {E : XK} (h : sp_law K vs H Q E) : t_law K { nx := fun _ H' => Q .non H', rt := Q } (start n_law vs) H := by
  obtain ⟨nd, a, ns, rfl, ha, hl, q⟩ := h
  have o : Own H [] H := Own.nil
  refine fg_body (q_seq (w_forL (w_op (w_evL (el_sl (ev_v 0) eo_no (eo_is ev_c) ha) fun p1 hp1 => el_lst (ea_2 ev_c ev_c) (by simp) _ fun p2 hp2 => ?_))))
  have e40 : cutV (ns.map V.int) none (some 40) = (ns.take 40).map V.int := cut_to ns 40
  rw [e40] at hp2 ⊢
  replace o := o.new (xs := (ns.take 40).map V.int) hp1
  replace o := o.new (xs := [.int 0, .int 1]) hp2
  refine ⟨p1, p2, _, _, rfl, rfl, o.atI 1 rfl, o.atI 0 rfl, szc (by simp; omega), fun p3 hp3 => ?_⟩
  rw [show (ns.take 40).map V.int ++ [V.int 0, .int 1] = (ns.take 40 ++ [0, 1]).map V.int by simp]
  generalize ns.take 40 ++ [0, 1] = cs
  replace o := o.new (xs := cs.map V.int) hp3
  replace o : Own H [(p3, cs.map V.int)] _ := o.sub (by simp)
  refine ⟨p3, rfl, ⟨_, o.sqi 0 rfl⟩, lp_list (xs := cs.map V.int) (fun i σ' H' => ∃ (y1 y2 y3 : Option V), σ' = [some (.ref a), y1, y2, y3, none, none] ∧ Own H [(p3, cs.map V.int)] H') ⟨_, _, _, rfl, o⟩ (fun i σ' H' _ hI => by obtain ⟨_, _, _, _, o⟩ := hI; exact o.sqi 0 rfl) (fun i v σ' H' hi hI => ?_) fun σ' H' hI => ?_⟩
  · clear o
    obtain ⟨y1, y2, y3, rfl, o⟩ := hI
    rw [List.getElem?_map] at hi
    cases ec : cs[i]? with
    | none => rw [ec] at hi; cases hi
    | some c =>
    rw [ec] at hi
    cases hi
    refine q_setW (w_callW (w_cons (w_v 1 (w_one (w_c ⟨o.nod, c, 5, rfl, fun pk d t hpk => ?_⟩)))))
    replace o := o.new (xs := dk d t 5) hpk
    refine q_setW (w_callW (w_one (w_v 2 ⟨o.nod, pk, d, t, 5, rfl, o.atI 0 rfl, by omega, by omega, fun w d k1 hw hk1 hk2 => ?_⟩)))
    replace o := o.mut (ys := dk d t k1) 0 rfl
    replace o : Own H [(pk, dk d t k1), (p3, cs.map V.int)] _ := o
    refine s_ifW (w_or (w_not (w_B (w_callW (w_one (w_v 3 (w_right (x := w) o.nod (by omega) ⟨true, rfl, iteF ?_⟩)))))))
    refine w_not (w_B (w_callW (w_one (w_callW (w_cons (w_v 2 (w_one (w_v 3 ⟨o.nod, pk, d, t, k1, w, rfl, o.atI 0 rfl, by omega, by omega, hw, fun w2 d2 k2 hw2 _ _ => ?_⟩))))))))
    replace o := o.mut (ys := dk d2 t k2) 0 rfl
    exact w_right (x := w2) o.nod hw2 ⟨true, rfl, iteF ⟨_, _, _, rfl, o.sub ((List.Sublist.refl _).cons _)⟩⟩
  · clear o
    obtain ⟨y1, y2, y3, rfl, o⟩ := hI
    dsimp only
    have c1l : (PySem.Str.ofString "^1").length = 2 := by decide +kernel
    refine q_setW (w_evL (el_lcR48 (lo := 2) (k := 500) (fun _ => true) (fun i => .str (sI i ++ PySem.Str.ofString "^1")) (ea_2 ev_c ev_c) (by omega) (fun _ => rfl) (fun i _ _ D acc _ => et_yes) (fun i h0 h1 _ D acc _ => ev_catS (ev_strI (i := i) (ev_v 5) (by omega)) ev_c (by have := sI_le (i := i) (k := 3) (by omega) (by decide) (by omega); omega))) fun pg hpg => ?_)
    rw [List.filter_eq_self.mpr (fun _ _ => rfl), List.map_map]
    obtain ⟨gs, hgs, hgl, hgx⟩ : ∃ gs : List Str, ((List.range (500 - 2 : Int).toNat).map ((fun i => V.str (sI i ++ PySem.Str.ofString "^1")) ∘ fun (i : Nat) => (2 : Int) + (i : Int))) = gs.map V.str ∧ gs.length = 498 ∧ ∀ w ∈ gs, w.length ≤ 5 := by
      refine ⟨(List.range (500 - 2 : Int).toNat).map fun (i : Nat) => sI (2 + (i : Int)) ++ PySem.Str.ofString "^1", by rw [List.map_map]; rfl, by rw [List.length_map, List.length_range]; rfl, fun w hw => ?_⟩
      obtain ⟨i, hi, rfl⟩ := List.mem_map.mp hw
      have hi2 : i < 498 := List.mem_range.mp hi
      have := sI_le (i := 2 + (i : Int)) (k := 3) (by omega) (by decide) (by omega)
      rw [Str.length_append]; omega
    rw [hgs]
    replace o := o.new (xs := gs.map V.str) hpg
    have hsl := slen_le hgx
    have M3 : MulOk (PySem.Str.ofString "7") 3000 := PyProof.Rows.mulOk_of 1 3000 (by decide +kernel) (by omega) (by omega) (by decide) (by decide)
    have R3 : (Txt.mul (PySem.Str.ofString "7") 3000).length ≤ 1 * 3000 := PyProof.Rows.len_mul_leN (by decide +kernel) (by decide)
    refine q_ifW (w_or (w_not (w_B (w_callW (w_one (w_join (a := B) ev_c (w_v 4 (ev_join48 (ws := gs) o 0 rfl (by omega) (w_right o.nod (Nat.le_trans (join_len48 _) (by omega)) ⟨true, rfl, iteF ?_⟩)))))))))
    refine w_not (w_B (w_callW (w_one (w_ev (ev_repS ev_c ev_c M3) (w_right o.nod (by omega) ⟨true, rfl, iteF (w_next ?_)⟩)))))
    dsimp only
    refine s_retW (w_callW (w_one (w_join (a := B) ev_c (w_op (w_v 4 (w_lstS48 (ws := [PySem.Str.ofString "2^1"]) o (ea_1 ev_c) (by simp) fun pq H2 o => w_catS48 o 1 0 rfl rfl (by rw [hgl]; simp) fun pr H3 o => ?_))))))
    have hl3 : slen (gs ++ [PySem.Str.ofString "2^1"]) + (gs ++ [PySem.Str.ofString "2^1"]).length ≤ 10000 := by
      rw [slen_app, List.length_append, show slen [PySem.Str.ofString "2^1"] = 3 by decide +kernel]; simp; omega
    exact ev_join48 o 0 rfl (by omega) (w_right o.nod (Nat.le_trans (join_len48 _) (by omega)) ⟨H, fg_same o.ex, q _⟩)
end Px
set_option Elab.async false
set_option linter.all false
set_option maxRecDepth 100000
set_option maxHeartbeats 0
namespace K48
open PySem PySem.Spec PyProof.Rows L2 Px
def top (i : Nat) : Stmt := PySem.Challenge.pw_smallparts_k48_texts_of_no_parts.main.body.getD i (.Pass ⟨0, 0, 0, 0⟩)
abbrev s_law_number_in : Stmt := top 22
abbrev N_law_number_in : List Str := ["word", "most", "figure"]
theorem sc_law_number_in : FnScope N_law_number_in ["word", "most"] (defScope s_law_number_in) := ⟨rfl, rfl, rfl, by decide +kernel, rfl, by decide +kernel, by decide +kernel⟩
abbrev s_law_due : Stmt := top 23
abbrev N_law_due : List Str := ["text", "parts", "word", "halves", "pair"]
theorem sc_law_due : FnScope N_law_due ["text"] (defScope s_law_due) := ⟨rfl, rfl, rfl, by decide +kernel, rfl, by decide +kernel, by decide +kernel⟩
abbrev s_read_number : Stmt := top 11
abbrev N_read_number : List Str := ["word", "most", "figure"]
theorem sc_read_number : FnScope N_read_number ["word", "most"] (defScope s_read_number) := ⟨rfl, rfl, rfl, by decide +kernel, rfl, by decide +kernel, by decide +kernel⟩
abbrev s_read_part : Stmt := top 12
abbrev N_read_part : List Str := ["word", "halves", "number"]
theorem sc_read_part : FnScope N_read_part ["word"] (defScope s_read_part) := ⟨rfl, rfl, rfl, by decide +kernel, rfl, by decide +kernel, by decide +kernel⟩
abbrev s_read_parts : Stmt := top 14
abbrev N_read_parts : List Str := ["text", "parts", "place", "word"]
theorem sc_read_parts : FnScope N_read_parts ["text"] (defScope s_read_parts) := ⟨rfl, rfl, rfl, by decide +kernel, rfl, by decide +kernel, by decide +kernel⟩
abbrev s_show_parts : Stmt := top 13
abbrev N_show_parts : List Str := ["parts", "prime", "times"]
theorem sc_show_parts : FnScope N_show_parts ["parts"] (defScope s_show_parts) := ⟨rfl, rfl, rfl, by decide +kernel, rfl, by decide +kernel, by decide +kernel⟩
abbrev s_law_right : Stmt := top 24
abbrev N_law_right : List Str := ["text", "found", "kinds", "e", "due"]
theorem sc_law_right : FnScope N_law_right ["text"] (defScope s_law_right) := ⟨rfl, rfl, rfl, by decide +kernel, rfl, by decide +kernel, by decide +kernel⟩
abbrev s_law_deck : Stmt := top 18
abbrev N_law_deck : List Str := ["cell", "k"]
theorem sc_law_deck : FnScope N_law_deck ["cell", "k"] (defScope s_law_deck) := ⟨rfl, rfl, rfl, by decide +kernel, rfl, by decide +kernel, by decide +kernel⟩
abbrev s_law_take : Stmt := top 17
abbrev N_law_take : List Str := ["deck", "many", "come", "number"]
theorem sc_law_take : FnScope N_law_take ["deck", "many"] (defScope s_law_take) := ⟨rfl, rfl, rfl, by decide +kernel, rfl, by decide +kernel, by decide +kernel⟩
abbrev s_law_text : Stmt := top 19
abbrev N_law_text : List Str := ["deck", "numbers", "k", "words", "number"]
theorem sc_law_text : FnScope N_law_text ["deck"] (defScope s_law_text) := ⟨rfl, rfl, rfl, by decide +kernel, rfl, by decide +kernel, by decide +kernel⟩
abbrev s_law_bad : Stmt := top 20
abbrev N_law_bad : List Str := ["deck", "some", "odd", "sign"]
theorem sc_law_bad : FnScope N_law_bad ["deck"] (defScope s_law_bad) := ⟨rfl, rfl, rfl, by decide +kernel, rfl, by decide +kernel, by decide +kernel⟩
abbrev s_law_spoilt : Stmt := top 21
abbrev N_law_spoilt : List Str := ["deck", "text", "way", "at", "sign", "words", "last"]
theorem sc_law_spoilt : FnScope N_law_spoilt ["deck", "text"] (defScope s_law_spoilt) := ⟨rfl, rfl, rfl, by decide +kernel, rfl, by decide +kernel, by decide +kernel⟩
abbrev s_law : Stmt := top 25
abbrev N_law : List Str := ["script", "cell", "deck", "text", "great", "number"]
theorem sc_law : FnScope N_law ["script"] (defScope s_law) := ⟨rfl, rfl, rfl, by decide +kernel, rfl, by decide +kernel, by decide +kernel⟩
section
variable {P : Program} {w : World} {K : PySem.W.Frag} {mg : Str → Option Value} {base : Heap} {f : Addr} {fd : FuncData}
theorem ok_law_number_in (F : FnP K "_law_number_in" s_law_number_in f fd) (g : mg "_law_number_in" = some (.ref f)) (m_all : mg "all" = none) (m_int : mg "int" = none) (m_len : mg "len" = none) : Fn P w K mg base "_law_number_in" 1 ["word", "most"] (sp_law_number_in K) := by
  refine ⟨f, fd, F.ok (k := 0) sc_law_number_in (fun vs H Q E h => by first | (obtain ⟨_, _, rfl, _⟩ := h; rfl) | (obtain ⟨_, _, _, rfl, _⟩ := h; rfl) | (obtain ⟨_, _, _, _, rfl, _⟩ := h; rfl) | (obtain ⟨_, _, _, _, _, rfl, _⟩ := h; rfl) | (obtain ⟨_, _, _, _, _, _, rfl, _⟩ := h; rfl) | (obtain ⟨_, _, _, _, _, _, _, rfl, _⟩ := h; rfl) | (obtain ⟨_, _, _, _, _, _, _, _, rfl, _⟩ := h; rfl) | (obtain ⟨_, _, _, _, _, _, _, _, _, rfl, _⟩ := h; rfl) | (obtain ⟨_, _, _, _, _, _, _, _, _, _, rfl, _⟩ := h; rfl) | (obtain ⟨_, _, _, _, _, _, _, _, _, _, _, rfl, _⟩ := h; rfl) | (obtain ⟨_, _, _, _, _, _, _, _, _, _, _, _, rfl, _⟩ := h; rfl) | (obtain ⟨_, _, _, _, _, _, _, _, _, _, _, _, _, rfl, _⟩ := h; rfl) | (obtain ⟨_, _, _, _, _, _, _, _, _, _, _, _, _, _, rfl, _⟩ := h; rfl) | (obtain ⟨_, _, _, _, _, _, _, _, _, _, _, _, _, _, _, rfl, _⟩ := h; rfl)) (fun cdv A outer s H vs Q E hr h => ⟨t_law_number_in K, PSs.nox ?_, r_law_number_in h⟩), g, F.kp, F.bindsN fun _ _ _ _ _ _ us hl => match us, hl with | [_, _], _ => rfl⟩
  exact (pss_fg (pss_cons (ps_if (PW.pt (pw_or (pt_not (pt_chain op_le op_le pe_int (pe_callB call_len_str (by rfl) m_len (by decide +kernel) (pa_cons (pv 0) pa_nil)) (pv 1))) (pw_or1 (pt_cmpR op_eq (pe_ix ix_str (pv 0) pe_int (fun _ _ => rfl)) pe_str (nomark _))))) (pss_one (ps_ret pe_int)) pss_nil)
      (pss_one (ps_ret (pe_ifExp (pt_val (pe_callB (cr_all rfl) (by rfl) m_all (by decide +kernel) (pa_cons (pe_lc (own := [("figure", 2)]) (g := (gName 2)) (tt := tYes) rfl sc_law_number_in.nd (pi_str (pv 0)) (blkOk_by (N := N_law_number_in) (sc := defScope s_law_number_in) (by decide +kernel)) (fun _ _ _ _ _ => (pg_name (i := 2) sc_law_number_in.nd rfl (Or.inl rfl))) (fun _ _ _ _ _ => pts_nil) (fun _ _ _ _ _ => (pe_cmpR op_in_sign (pv 2) pe_str (by with_unfolding_all rfl)))) pa_nil))) (pe_callTy call_int_str (by rfl) m_int (by decide +kernel) (pa_cons (pv 0) pa_nil)) pe_int)))))
theorem ok_law_due (F : FnP K "_law_due" s_law_due f fd) (g : mg "_law_due" = some (.ref f)) (F_law_number_in : Fn P w K mg base "_law_number_in" 1 ["word", "most"] (sp_law_number_in K)) (m_len : mg "len" = none) : Fn P w K mg base "_law_due" 2 ["text"] (sp_law_due K) := by
  refine ⟨f, fd, F.ok (k := 1) sc_law_due (fun vs H Q E h => by first | (obtain ⟨_, _, rfl, _⟩ := h; rfl) | (obtain ⟨_, _, _, rfl, _⟩ := h; rfl) | (obtain ⟨_, _, _, _, rfl, _⟩ := h; rfl) | (obtain ⟨_, _, _, _, _, rfl, _⟩ := h; rfl) | (obtain ⟨_, _, _, _, _, _, rfl, _⟩ := h; rfl) | (obtain ⟨_, _, _, _, _, _, _, rfl, _⟩ := h; rfl) | (obtain ⟨_, _, _, _, _, _, _, _, rfl, _⟩ := h; rfl) | (obtain ⟨_, _, _, _, _, _, _, _, _, rfl, _⟩ := h; rfl) | (obtain ⟨_, _, _, _, _, _, _, _, _, _, rfl, _⟩ := h; rfl) | (obtain ⟨_, _, _, _, _, _, _, _, _, _, _, rfl, _⟩ := h; rfl) | (obtain ⟨_, _, _, _, _, _, _, _, _, _, _, _, rfl, _⟩ := h; rfl) | (obtain ⟨_, _, _, _, _, _, _, _, _, _, _, _, _, rfl, _⟩ := h; rfl) | (obtain ⟨_, _, _, _, _, _, _, _, _, _, _, _, _, _, rfl, _⟩ := h; rfl) | (obtain ⟨_, _, _, _, _, _, _, _, _, _, _, _, _, _, _, rfl, _⟩ := h; rfl)) (fun cdv A outer s H vs Q E hr h => ⟨t_law_due K, PSs.nox ?_, r_law_due h⟩), g, F.kp, F.bindsN fun _ _ _ _ _ _ us hl => match us, hl with | [_], _ => rfl⟩
  exact (pss_fg (pss_cons (ps_set (i := 1) sc_law_due.nd rfl (Or.inl rfl) (pe_lst pa_nil))
      (pss_cons (ps_for PassesOwn.never rfl (pi_list (pe_ifExp (pt_cmpR op_eq (pv 0) pe_str (nomark _)) (pe_lst pa_nil) (pe_splitT (pv 0) pe_str))) (pg_name (i := 2) sc_law_due.nd rfl (Or.inl rfl)) (pss_cons (ps_set (i := 3) sc_law_due.nd rfl (Or.inl rfl) (pe_splitT (pv 2) pe_str))
      (pss_cons (ps_if (pt_cmpR op_ne (pe_callB call_len_seq (by rfl) m_len (by decide +kernel) (pa_cons (pv 3) pa_nil)) pe_int (nomark _)) (pss_one (ps_ret pe_non)) pss_nil)
      (pss_cons (ps_set (i := 4) sc_law_due.nd rfl (Or.inl rfl) (pe_tup (pa_cons (pe_fn F_law_number_in (hr.mono (by decide)) (pa_cons (pe_ix ix_list (pv 3) pe_int (fun _ _ => rfl)) (pa_cons pe_int pa_nil))) (pa_cons (pe_fn F_law_number_in (hr.mono (by decide)) (pa_cons (pe_ix ix_list (pv 3) pe_int (fun _ _ => rfl)) (pa_cons pe_int pa_nil))) pa_nil))))
      (pss_cons (ps_if (PW.pt (pw_or (pt_cmpR op_lt (pe_ix ix_tup (pv 4) pe_int (fun _ _ => rfl)) pe_int (nomark _)) (pw_or (pt_cmpR op_lt (pe_ix ix_tup (pv 4) pe_int (fun _ _ => rfl)) pe_int (nomark _)) (pw_or1 (PW.pt (pw_and (pt_cmpR (op_neD hr.units) (pv 1) (pe_lst pa_nil) (nomark _)) (pw_and1 (pt_cmpR op_le (pe_ix ix_tup (pv 4) pe_int (fun _ _ => rfl)) (pe_ix ix_tup (pe_ix ix_list (pv 1) (pe_un un_neg pe_int) (fun _ _ => rfl)) pe_int (fun _ _ => rfl)) (nomark _))))))))) (pss_one (ps_ret pe_non)) pss_nil)
      (pss_one (ps_expr (pe_bm PySem.F.plainAttrs_list PySem.F.slot_list_append PySem.F.type_list_append mt_append (pv 1) (pa_cons (pv 4) pa_nil)))))))))
      (pss_one (ps_ret (pv 1))))))
theorem ok_read_number (F : FnP K "read_number" s_read_number f fd) (g : mg "read_number" = some (.ref f)) (m_int : mg "int" = none) (m_len : mg "len" = none) (g_FIGURES : ∃ t, mg "FIGURES" = some (.str (PySem.Str.ofString "0123456789") t)) (g_NoText : mg "NoText" = some (.ref (He.ga K "NoText"))) (hX : Errs K) : FnX P w K mg base "read_number" 1 ["word", "most"] (sp_read_number K) := by
  obtain ⟨_, g_FIGURES⟩ := g_FIGURES
  refine ⟨f, fd, F.ok (CX := L2.CX P w) (k := 0) sc_read_number (fun vs H Q E h => by first | (obtain ⟨_, _, rfl, _⟩ := h; rfl) | (obtain ⟨_, _, _, rfl, _⟩ := h; rfl) | (obtain ⟨_, _, _, _, rfl, _⟩ := h; rfl) | (obtain ⟨_, _, _, _, _, rfl, _⟩ := h; rfl) | (obtain ⟨_, _, _, _, _, _, rfl, _⟩ := h; rfl) | (obtain ⟨_, _, _, _, _, _, _, rfl, _⟩ := h; rfl) | (obtain ⟨_, _, _, _, _, _, _, _, rfl, _⟩ := h; rfl) | (obtain ⟨_, _, _, _, _, _, _, _, _, rfl, _⟩ := h; rfl) | (obtain ⟨_, _, _, _, _, _, _, _, _, _, rfl, _⟩ := h; rfl) | (obtain ⟨_, _, _, _, _, _, _, _, _, _, _, rfl, _⟩ := h; rfl) | (obtain ⟨_, _, _, _, _, _, _, _, _, _, _, _, rfl, _⟩ := h; rfl) | (obtain ⟨_, _, _, _, _, _, _, _, _, _, _, _, _, rfl, _⟩ := h; rfl) | (obtain ⟨_, _, _, _, _, _, _, _, _, _, _, _, _, _, rfl, _⟩ := h; rfl) | (obtain ⟨_, _, _, _, _, _, _, _, _, _, _, _, _, _, _, rfl, _⟩ := h; rfl)) (fun cdv A outer s H vs Q E hr h => ⟨t_read_number K E, ?_, r_read_number h⟩), g, F.kp, F.bindsN fun _ _ _ _ _ _ us hl => match us, hl with | [_, _], _ => rfl⟩
  exact (pss_fg (pss_cons (ps_if (PW.pt (pw_or (pt_not (pt_chain op_le op_le pe_int (pe_callB call_len_str (by rfl) m_len (by decide +kernel) (pa_cons (pv 0) pa_nil)) (pv 1))) (pw_or1 (pt_cmpR op_eq (pe_ix ix_str (pv 0) pe_int (fun _ _ => rfl)) pe_str (nomark _))))) (pss_one (ps_rai (hX "NoText" (by decide)).em g_NoText rfl (takes_of rfl rfl rfl rfl))) pss_nil)
      (pss_cons (ps_for (passes_of rfl) rfl (pi_str (pv 0)) (pg_name (i := 2) sc_read_number.nd rfl (Or.inl rfl)) (pss_one (ps_if (pt_cmpR op_notIn_sign (pv 2) (pe_glob (by rfl) g_FIGURES ⟨_, rfl⟩) (by with_unfolding_all rfl)) (pss_one (ps_rai (hX "NoText" (by decide)).em g_NoText rfl (takes_of rfl rfl rfl rfl))) pss_nil)))
      (pss_one (ps_ret (pe_callTy call_int_str (by rfl) m_int (by decide +kernel) (pa_cons (pv 0) pa_nil)))))))
theorem ok_read_part (F : FnP K "read_part" s_read_part f fd) (g : mg "read_part" = some (.ref f)) (F_read_number : FnX P w K mg base "read_number" 1 ["word", "most"] (sp_read_number K)) (m_len : mg "len" = none) (g_MOST_FIGURES : ∃ t, mg "MOST_FIGURES" = some (.int 9 t)) (g_MOST_TIMES : ∃ t, mg "MOST_TIMES" = some (.int 2 t)) (g_NoText : mg "NoText" = some (.ref (He.ga K "NoText"))) (hX : Errs K) : FnX P w K mg base "read_part" 2 ["word"] (sp_read_part K) := by
  obtain ⟨_, g_MOST_FIGURES⟩ := g_MOST_FIGURES
  obtain ⟨_, g_MOST_TIMES⟩ := g_MOST_TIMES
  refine ⟨f, fd, F.ok (CX := L2.CX P w) (k := 1) sc_read_part (fun vs H Q E h => by first | (obtain ⟨_, _, rfl, _⟩ := h; rfl) | (obtain ⟨_, _, _, rfl, _⟩ := h; rfl) | (obtain ⟨_, _, _, _, rfl, _⟩ := h; rfl) | (obtain ⟨_, _, _, _, _, rfl, _⟩ := h; rfl) | (obtain ⟨_, _, _, _, _, _, rfl, _⟩ := h; rfl) | (obtain ⟨_, _, _, _, _, _, _, rfl, _⟩ := h; rfl) | (obtain ⟨_, _, _, _, _, _, _, _, rfl, _⟩ := h; rfl) | (obtain ⟨_, _, _, _, _, _, _, _, _, rfl, _⟩ := h; rfl) | (obtain ⟨_, _, _, _, _, _, _, _, _, _, rfl, _⟩ := h; rfl) | (obtain ⟨_, _, _, _, _, _, _, _, _, _, _, rfl, _⟩ := h; rfl) | (obtain ⟨_, _, _, _, _, _, _, _, _, _, _, _, rfl, _⟩ := h; rfl) | (obtain ⟨_, _, _, _, _, _, _, _, _, _, _, _, _, rfl, _⟩ := h; rfl) | (obtain ⟨_, _, _, _, _, _, _, _, _, _, _, _, _, _, rfl, _⟩ := h; rfl) | (obtain ⟨_, _, _, _, _, _, _, _, _, _, _, _, _, _, _, rfl, _⟩ := h; rfl)) (fun cdv A outer s H vs Q E hr h => ⟨t_read_part K E, ?_, r_read_part h⟩), g, F.kp, F.bindsN fun _ _ _ _ _ _ us hl => match us, hl with | [_], _ => rfl⟩
  exact (pss_fg (pss_cons (ps_set (i := 1) sc_read_part.nd rfl (Or.inl rfl) (pe_splitT (pv 0) pe_str))
      (pss_cons (ps_if (pt_cmpR op_ne (pe_callB call_len_seq (by rfl) m_len (by decide +kernel) (pa_cons (pv 1) pa_nil)) pe_int (nomark _)) (pss_one (ps_rai (hX "NoText" (by decide)).em g_NoText rfl (takes_of rfl rfl rfl rfl))) pss_nil)
      (pss_cons (ps_set (i := 2) sc_read_part.nd rfl (Or.inl rfl) (pe_fnX F_read_number (hr.mono (by decide)) (takes_of rfl rfl rfl rfl) (pa_cons (pe_ix ix_list (pv 1) pe_int (fun _ _ => rfl)) (pa_cons (pe_glob (by rfl) g_MOST_FIGURES ⟨_, rfl⟩) pa_nil))))
      (pss_cons (ps_if (pt_cmpR op_lt (pv 2) pe_int (nomark _)) (pss_one (ps_rai (hX "NoText" (by decide)).em g_NoText rfl (takes_of rfl rfl rfl rfl))) pss_nil)
      (pss_one (ps_ret (pe_tup (pa_cons (pv 2) (pa_cons (pe_fnX F_read_number (hr.mono (by decide)) (takes_of rfl rfl rfl rfl) (pa_cons (pe_ix ix_list (pv 1) pe_int (fun _ _ => rfl)) (pa_cons (pe_glob (by rfl) g_MOST_TIMES ⟨_, rfl⟩) pa_nil))) pa_nil))))))))))
theorem ok_read_parts (F : FnP K "read_parts" s_read_parts f fd) (g : mg "read_parts" = some (.ref f)) (F_read_part : FnX P w K mg base "read_part" 2 ["word"] (sp_read_part K)) (m_len : mg "len" = none) (m_range : mg "range" = none) (g_NoText : mg "NoText" = some (.ref (He.ga K "NoText"))) (hX : Errs K) : FnX P w K mg base "read_parts" 3 ["text"] (sp_read_parts K) := by
  refine ⟨f, fd, F.ok (CX := L2.CX P w) (k := 2) sc_read_parts (fun vs H Q E h => by first | (obtain ⟨_, _, rfl, _⟩ := h; rfl) | (obtain ⟨_, _, _, rfl, _⟩ := h; rfl) | (obtain ⟨_, _, _, _, rfl, _⟩ := h; rfl) | (obtain ⟨_, _, _, _, _, rfl, _⟩ := h; rfl) | (obtain ⟨_, _, _, _, _, _, rfl, _⟩ := h; rfl) | (obtain ⟨_, _, _, _, _, _, _, rfl, _⟩ := h; rfl) | (obtain ⟨_, _, _, _, _, _, _, _, rfl, _⟩ := h; rfl) | (obtain ⟨_, _, _, _, _, _, _, _, _, rfl, _⟩ := h; rfl) | (obtain ⟨_, _, _, _, _, _, _, _, _, _, rfl, _⟩ := h; rfl) | (obtain ⟨_, _, _, _, _, _, _, _, _, _, _, rfl, _⟩ := h; rfl) | (obtain ⟨_, _, _, _, _, _, _, _, _, _, _, _, rfl, _⟩ := h; rfl) | (obtain ⟨_, _, _, _, _, _, _, _, _, _, _, _, _, rfl, _⟩ := h; rfl) | (obtain ⟨_, _, _, _, _, _, _, _, _, _, _, _, _, _, rfl, _⟩ := h; rfl) | (obtain ⟨_, _, _, _, _, _, _, _, _, _, _, _, _, _, _, rfl, _⟩ := h; rfl)) (fun cdv A outer s H vs Q E hr h => ⟨t_read_parts K E, ?_, r_read_parts h⟩), g, F.kp, F.bindsN fun _ _ _ _ _ _ us hl => match us, hl with | [_], _ => rfl⟩
  exact (pss_fg (pss_cons (ps_if (pt_cmpR op_eq (pv 0) pe_str (nomark _)) (pss_one (ps_ret (pe_lst pa_nil))) pss_nil)
      (pss_cons (ps_setLcX (i := 1) (own := [("word", 3)]) (g := (gName 3)) (tt := tYes) rfl rfl (takes_of rfl rfl rfl rfl) rfl sc_read_parts.nd rfl rfl (sw_true rfl rfl rfl (by decide +kernel)) (pi_list (pe_splitT (pv 0) pe_str)) (blkOk_by (N := N_read_parts) (sc := defScope s_read_parts) (by decide +kernel)) (fun _ _ _ _ _ => (pg_name (i := 3) sc_read_parts.nd rfl (Or.inl rfl))) (fun _ _ _ _ _ => pts_nil) (fun _ _ _ _ _ _ => (pe_fnXB F_read_part (hr.mono (by decide)) (pa_cons (pv 3) pa_nil))))
      (pss_cons (ps_for (passes_of rfl) rfl (pi_range2 (by rfl) m_range (pa_cons pe_int (pa_cons (pe_callB call_len_seq (by rfl) m_len (by decide +kernel) (pa_cons (pv 1) pa_nil)) pa_nil))) (pg_name (i := 2) sc_read_parts.nd rfl (Or.inl rfl)) (pss_one (ps_if (pt_cmpR op_le (pe_ix ix_tup (pe_ix ix_list (pv 1) (pv 2) (fun _ _ => rfl)) pe_int (fun _ _ => rfl)) (pe_ix ix_tup (pe_ix ix_list (pv 1) (pe_op op_sub (pv 2) pe_int) (fun _ _ => rfl)) pe_int (fun _ _ => rfl)) (nomark _)) (pss_one (ps_rai (hX "NoText" (by decide)).em g_NoText rfl (takes_of rfl rfl rfl rfl))) pss_nil)))
      (pss_one (ps_ret (pv 1)))))))
theorem ok_show_parts (F : FnP K "show_parts" s_show_parts f fd) (g : mg "show_parts" = some (.ref f))  : Fn P w K mg base "show_parts" 1 ["parts"] (sp_show_parts K) := by
  refine ⟨f, fd, F.ok (k := 0) sc_show_parts (fun vs H Q E h => by first | (obtain ⟨_, _, rfl, _⟩ := h; rfl) | (obtain ⟨_, _, _, rfl, _⟩ := h; rfl) | (obtain ⟨_, _, _, _, rfl, _⟩ := h; rfl) | (obtain ⟨_, _, _, _, _, rfl, _⟩ := h; rfl) | (obtain ⟨_, _, _, _, _, _, rfl, _⟩ := h; rfl) | (obtain ⟨_, _, _, _, _, _, _, rfl, _⟩ := h; rfl) | (obtain ⟨_, _, _, _, _, _, _, _, rfl, _⟩ := h; rfl) | (obtain ⟨_, _, _, _, _, _, _, _, _, rfl, _⟩ := h; rfl) | (obtain ⟨_, _, _, _, _, _, _, _, _, _, rfl, _⟩ := h; rfl) | (obtain ⟨_, _, _, _, _, _, _, _, _, _, _, rfl, _⟩ := h; rfl) | (obtain ⟨_, _, _, _, _, _, _, _, _, _, _, _, rfl, _⟩ := h; rfl) | (obtain ⟨_, _, _, _, _, _, _, _, _, _, _, _, _, rfl, _⟩ := h; rfl) | (obtain ⟨_, _, _, _, _, _, _, _, _, _, _, _, _, _, rfl, _⟩ := h; rfl) | (obtain ⟨_, _, _, _, _, _, _, _, _, _, _, _, _, _, _, rfl, _⟩ := h; rfl)) (fun cdv A outer s H vs Q E hr h => ⟨t_show_parts K, PSs.nox ?_, r_show_parts h⟩), g, F.kp, F.bindsN fun _ _ _ _ _ _ us hl => match us, hl with | [_], _ => rfl⟩
  exact (pss_fg (pss_cons (ps_if (pt_cmpR (op_eqD hr.units) (pv 0) (pe_lst pa_nil) (nomark _)) (pss_one (ps_ret pe_str)) pss_nil)
      (pss_one (ps_ret (pe_joinT pe_str (pe_lc (own := [("prime", 1), ("times", 2)]) (g := (gTup K 2 (gCons (gName 1) (gCons (gName 2) gNil)))) (tt := tYes) rfl sc_show_parts.nd (pi_list (pv 0)) (blkOk_by (N := N_show_parts) (sc := defScope s_show_parts) (by decide +kernel)) (fun _ _ _ _ _ => (pg_tup rfl (pgs_cons (pg_name (i := 1) sc_show_parts.nd rfl (Or.inl rfl)) (pgs_cons (pg_name (i := 2) sc_show_parts.nd rfl (Or.inl rfl)) pgs_nil)))) (fun _ _ _ _ _ => pts_nil) (fun _ _ _ _ _ => (pe_joinedT (.cons (pe_fmt (pv 1)) (.cons pe_str (.cons (pe_fmt (pv 2)) .nil)))))))))))
theorem ok_law_right (F : FnP K "_law_right" s_law_right f fd) (g : mg "_law_right" = some (.ref f)) (F_read_parts : FnX P w K mg base "read_parts" 3 ["text"] (sp_read_parts K)) (F_law_due : Fn P w K mg base "_law_due" 2 ["text"] (sp_law_due K)) (F_show_parts : Fn P w K mg base "show_parts" 1 ["parts"] (sp_show_parts K)) (m_ValueError : mg "ValueError" = none) (m_isinstance : mg "isinstance" = none) (m_repr : mg "repr" = none) (g_NoCommand : mg "NoCommand" = some (.ref (He.ga K "NoCommand"))) (g_NoNumber : mg "NoNumber" = some (.ref (He.ga K "NoNumber"))) (g_NoPlace : mg "NoPlace" = some (.ref (He.ga K "NoPlace"))) (g_NoPrimes : mg "NoPrimes" = some (.ref (He.ga K "NoPrimes"))) (g_NoText : mg "NoText" = some (.ref (He.ga K "NoText"))) (g_PartError : mg "PartError" = some (.ref (He.ga K "PartError"))) (hX : Errs K) : Gn1 P w K mg base "_law_right" 4 ["text"] (sp_law_right K) := by
  refine ⟨f, fd, gn_of F (k := 3) sc_law_right (fun vs H Q E h => by first | (obtain ⟨_, _, rfl, _⟩ := h; rfl) | (obtain ⟨_, _, _, rfl, _⟩ := h; rfl) | (obtain ⟨_, _, _, _, rfl, _⟩ := h; rfl) | (obtain ⟨_, _, _, _, _, rfl, _⟩ := h; rfl) | (obtain ⟨_, _, _, _, _, _, rfl, _⟩ := h; rfl) | (obtain ⟨_, _, _, _, _, _, _, rfl, _⟩ := h; rfl) | (obtain ⟨_, _, _, _, _, _, _, _, rfl, _⟩ := h; rfl) | (obtain ⟨_, _, _, _, _, _, _, _, _, rfl, _⟩ := h; rfl) | (obtain ⟨_, _, _, _, _, _, _, _, _, _, rfl, _⟩ := h; rfl) | (obtain ⟨_, _, _, _, _, _, _, _, _, _, _, rfl, _⟩ := h; rfl) | (obtain ⟨_, _, _, _, _, _, _, _, _, _, _, _, rfl, _⟩ := h; rfl) | (obtain ⟨_, _, _, _, _, _, _, _, _, _, _, _, _, rfl, _⟩ := h; rfl) | (obtain ⟨_, _, _, _, _, _, _, _, _, _, _, _, _, _, rfl, _⟩ := h; rfl) | (obtain ⟨_, _, _, _, _, _, _, _, _, _, _, _, _, _, _, rfl, _⟩ := h; rfl)) (fun cdv A outer s H vs Q E hr hc h => ⟨t_law_right K, PSs.nox ?_, r_law_right hX h⟩), g, F.kp, F.bindsN fun _ _ _ _ _ _ us hl => match us, hl with | [_], _ => rfl⟩
  exact (pss_fg (pss_cons (ps_set (i := 1) sc_law_right.nd rfl (Or.inl rfl) pe_non)
      (pss_cons (ps_set (i := 2) sc_law_right.nd rfl (Or.inl rfl) (pe_lst pa_nil))
      (pss_cons (ps_tryi (i := 3) rfl rfl rfl (fun _ _ h => nomatch h) sc_law_right.nd rfl rfl ⟨by rfl, by decide, .inl g_PartError⟩ (fun W pn xe tk po => (pss_one (ps_set (i := 1) sc_law_right.nd rfl (Or.inl rfl) (pe_fnX F_read_parts (hr.mono (by decide)) tk (pa_cons (pv 0) pa_nil))))) (fun a pn => (pss_cons (ps_set (i := 2) sc_law_right.nd rfl (Or.inl rfl) (pe_lst (pa_cons (pe_callB call_isX (by rfl) m_isinstance (by decide +kernel) (pa_cons (pv 3) (pa_cons (pe_glob (by rfl) g_NoText rfl) pa_nil))) (pa_cons (pe_callB call_isX (by rfl) m_isinstance (by decide +kernel) (pa_cons (pv 3) (pa_cons (pe_bltn (v := .ty "ValueError") (by rfl) m_ValueError (by decide +kernel) rfl) pa_nil))) pa_nil))))
      (pss_one (ps_expr (pe_bm PySem.F.plainAttrs_list PySem.F.slot_list_append PySem.F.type_list_append mt_append (pv 2) (pa_cons (pe_callB call_isXT (by rfl) m_isinstance (by decide +kernel) (pa_cons (pv 3) (pa_cons (pe_tup (pa_cons (pe_glob (by rfl) g_NoCommand rfl) (pa_cons (pe_glob (by rfl) g_NoNumber rfl) (pa_cons (pe_glob (by rfl) g_NoPlace rfl) (pa_cons (pe_glob (by rfl) g_NoPrimes rfl) pa_nil))))) pa_nil))) pa_nil)))))))
      (pss_cons (ps_set (i := 4) sc_law_right.nd rfl (Or.inl rfl) (pe_fn F_law_due (hr.mono (by decide)) (pa_cons (pv 0) pa_nil)))
      (pss_cons (ps_if (pt_cmpR op_isN (pv 4) pe_non (nomark _)) (pss_one (ps_ret (pe_cmpR (op_eqD hr.units) (pv 2) (pe_lst (pa_cons pe_bl (pa_cons pe_bl (pa_cons pe_bl pa_nil)))) (nomark _)))) pss_nil)
      (pss_one (ps_ret (pe_and (pe_cmpR (op_eqD hr.units) (pv 2) (pe_lst pa_nil) (nomark _)) (pe_and (pe_cmpR op_eq (pe_callB (call_reprD hr hc) (by rfl) m_repr (by decide +kernel) (pa_cons (pv 1) pa_nil)) (pe_callB (call_reprD hr hc) (by rfl) m_repr (by decide +kernel) (pa_cons (pv 4) pa_nil)) (nomark _)) (pe_one (pe_cmpR op_eq (pe_fn F_show_parts (hr.mono (by decide)) (pa_cons (pv 4) pa_nil)) (pv 0) (nomark _)))))))))))))
theorem ok_law_deck (F : FnP K "_law_deck" s_law_deck f fd) (g : mg "_law_deck" = some (.ref f))  : Fn P w K mg base "_law_deck" 1 ["cell", "k"] (sp_law_deck K) := by
  refine ⟨f, fd, F.ok (k := 0) sc_law_deck (fun vs H Q E h => by first | (obtain ⟨_, _, rfl, _⟩ := h; rfl) | (obtain ⟨_, _, _, rfl, _⟩ := h; rfl) | (obtain ⟨_, _, _, _, rfl, _⟩ := h; rfl) | (obtain ⟨_, _, _, _, _, rfl, _⟩ := h; rfl) | (obtain ⟨_, _, _, _, _, _, rfl, _⟩ := h; rfl) | (obtain ⟨_, _, _, _, _, _, _, rfl, _⟩ := h; rfl) | (obtain ⟨_, _, _, _, _, _, _, _, rfl, _⟩ := h; rfl) | (obtain ⟨_, _, _, _, _, _, _, _, _, rfl, _⟩ := h; rfl) | (obtain ⟨_, _, _, _, _, _, _, _, _, _, rfl, _⟩ := h; rfl) | (obtain ⟨_, _, _, _, _, _, _, _, _, _, _, rfl, _⟩ := h; rfl) | (obtain ⟨_, _, _, _, _, _, _, _, _, _, _, _, rfl, _⟩ := h; rfl) | (obtain ⟨_, _, _, _, _, _, _, _, _, _, _, _, _, rfl, _⟩ := h; rfl) | (obtain ⟨_, _, _, _, _, _, _, _, _, _, _, _, _, _, rfl, _⟩ := h; rfl) | (obtain ⟨_, _, _, _, _, _, _, _, _, _, _, _, _, _, _, rfl, _⟩ := h; rfl)) (fun cdv A outer s H vs Q E hr h => ⟨t_law_deck K, PSs.nox ?_, r_law_deck h⟩), g, F.kp, F.bindsN fun _ _ _ _ _ _ us hl => match us, hl with | [_, _], _ => rfl⟩
  exact (pss_fg (pss_cons (ps_if (pt_cmpR op_ge (pv 0) (pe_op op_pow pe_int pe_int) (nomark _)) (pss_one (ps_ret (pe_lst (pa_cons (pe_op op_sub (pv 0) (pe_op op_pow pe_int pe_int)) (pa_cons pe_int (pa_cons (pv 1) pa_nil)))))) pss_nil)
      (pss_one (ps_ret (pe_lst (pa_cons (pv 0) (pa_cons pe_int (pa_cons (pv 1) pa_nil))))))))
theorem ok_law_take (F : FnP K "_law_take" s_law_take f fd) (g : mg "_law_take" = some (.ref f))  : Fn P w K mg base "_law_take" 1 ["deck", "many"] (sp_law_take K) := by
  refine ⟨f, fd, F.ok (k := 0) sc_law_take (fun vs H Q E h => by first | (obtain ⟨_, _, rfl, _⟩ := h; rfl) | (obtain ⟨_, _, _, rfl, _⟩ := h; rfl) | (obtain ⟨_, _, _, _, rfl, _⟩ := h; rfl) | (obtain ⟨_, _, _, _, _, rfl, _⟩ := h; rfl) | (obtain ⟨_, _, _, _, _, _, rfl, _⟩ := h; rfl) | (obtain ⟨_, _, _, _, _, _, _, rfl, _⟩ := h; rfl) | (obtain ⟨_, _, _, _, _, _, _, _, rfl, _⟩ := h; rfl) | (obtain ⟨_, _, _, _, _, _, _, _, _, rfl, _⟩ := h; rfl) | (obtain ⟨_, _, _, _, _, _, _, _, _, _, rfl, _⟩ := h; rfl) | (obtain ⟨_, _, _, _, _, _, _, _, _, _, _, rfl, _⟩ := h; rfl) | (obtain ⟨_, _, _, _, _, _, _, _, _, _, _, _, rfl, _⟩ := h; rfl) | (obtain ⟨_, _, _, _, _, _, _, _, _, _, _, _, _, rfl, _⟩ := h; rfl) | (obtain ⟨_, _, _, _, _, _, _, _, _, _, _, _, _, _, rfl, _⟩ := h; rfl) | (obtain ⟨_, _, _, _, _, _, _, _, _, _, _, _, _, _, _, rfl, _⟩ := h; rfl)) (fun cdv A outer s H vs Q E hr h => ⟨t_law_take K, PSs.nox ?_, r_law_take h⟩), g, F.kp, F.bindsN fun _ _ _ _ _ _ us hl => match us, hl with | [_, _], _ => rfl⟩
  exact (pss_fg (pss_cons (ps_if (pt_cmpR op_eq (pe_ix ix_list (pv 0) pe_int (fun _ _ => rfl)) pe_int (nomark _)) (pss_cons (ps_set (i := 2) sc_law_take.nd rfl (Or.inl rfl) (pe_op op_mod (pe_ix ix_list (pv 0) pe_int (fun _ _ => rfl)) (pv 1)))
      (pss_cons (ps_asg (pe_op op_fdivW (pe_ix ix_list (pv 0) pe_int (fun _ _ => rfl)) (pv 1)) (pg_sub (pv 0) pe_int set_list))
      (pss_one (ps_ret (pv 2))))) pss_nil)
      (pss_cons (ps_asg (pe_op op_add (pe_ix ix_list (pv 0) pe_int (fun _ _ => rfl)) pe_int) (pg_sub (pv 0) pe_int set_list))
      (pss_cons (ps_set (i := 3) sc_law_take.nd rfl (Or.inl rfl) (pe_op op_mulW (pe_op op_mod (pe_ix ix_list (pv 0) pe_int (fun _ _ => rfl)) pe_int) (pe_op op_add (pe_op op_mulW (pe_ix ix_list (pv 0) pe_int (fun _ _ => rfl)) (pe_ix ix_list (pv 0) pe_int (fun _ _ => rfl))) pe_int)))
      (pss_cons (ps_set (i := 3) sc_law_take.nd rfl (Or.inl rfl) (pe_op op_mod (pe_op op_add (pe_op op_add (pv 3) (pe_ix ix_list (pv 0) pe_int (fun _ _ => rfl))) pe_int) pe_int))
      (pss_cons (ps_set (i := 3) sc_law_take.nd rfl (Or.inl rfl) (pe_op op_mod (pe_op op_mulW (pv 3) (pv 3)) pe_int))
      (pss_one (ps_ret (pe_op op_mod (pe_op op_fdivW (pe_op op_mod (pe_op op_mulW (pv 3) pe_int) pe_int) pe_int) (pv 1))))))))))
theorem ok_law_text (F : FnP K "_law_text" s_law_text f fd) (g : mg "_law_text" = some (.ref f)) (F_law_take : Fn P w K mg base "_law_take" 1 ["deck", "many"] (sp_law_take K)) (m_int : mg "int" = none) (m_range : mg "range" = none) (m_sorted : mg "sorted" = none) (m_str : mg "str" = none) : Fn P w K mg base "_law_text" 2 ["deck"] (sp_law_text K) := by
  refine ⟨f, fd, F.ok (k := 1) sc_law_text (fun vs H Q E h => by first | (obtain ⟨_, _, rfl, _⟩ := h; rfl) | (obtain ⟨_, _, _, rfl, _⟩ := h; rfl) | (obtain ⟨_, _, _, _, rfl, _⟩ := h; rfl) | (obtain ⟨_, _, _, _, _, rfl, _⟩ := h; rfl) | (obtain ⟨_, _, _, _, _, _, rfl, _⟩ := h; rfl) | (obtain ⟨_, _, _, _, _, _, _, rfl, _⟩ := h; rfl) | (obtain ⟨_, _, _, _, _, _, _, _, rfl, _⟩ := h; rfl) | (obtain ⟨_, _, _, _, _, _, _, _, _, rfl, _⟩ := h; rfl) | (obtain ⟨_, _, _, _, _, _, _, _, _, _, rfl, _⟩ := h; rfl) | (obtain ⟨_, _, _, _, _, _, _, _, _, _, _, rfl, _⟩ := h; rfl) | (obtain ⟨_, _, _, _, _, _, _, _, _, _, _, _, rfl, _⟩ := h; rfl) | (obtain ⟨_, _, _, _, _, _, _, _, _, _, _, _, _, rfl, _⟩ := h; rfl) | (obtain ⟨_, _, _, _, _, _, _, _, _, _, _, _, _, _, rfl, _⟩ := h; rfl) | (obtain ⟨_, _, _, _, _, _, _, _, _, _, _, _, _, _, _, rfl, _⟩ := h; rfl)) (fun cdv A outer s H vs Q E hr h => ⟨t_law_text K, PSs.nox ?_, r_law_text h⟩), g, F.kp, F.bindsN fun _ _ _ _ _ _ us hl => match us, hl with | [_], _ => rfl⟩
  exact (pss_fg (pss_cons (ps_set (i := 1) sc_law_text.nd rfl (Or.inl rfl) pe_dnewK)
      (pss_cons (ps_for PassesOwn.never rfl (pi_range1 (by rfl) m_range (pa_cons (pe_fn F_law_take (hr.mono (by decide)) (pa_cons (pv 0) (pa_cons (pe_ix ix_list (pe_lst (pa_cons pe_int (pa_cons pe_int pa_nil))) (pe_callTy call_int1 (by rfl) m_int (by decide +kernel) (pa_cons (pe_cmpR op_eq (pe_fn F_law_take (hr.mono (by decide)) (pa_cons (pv 0) (pa_cons pe_int pa_nil))) pe_int (nomark _)) pa_nil)) (fun _ _ => rfl)) pa_nil))) pa_nil)) (pg_name (i := 2) sc_law_text.nd rfl (Or.inl rfl)) (pss_one (ps_dput (hu_of hr) (pv 1) (pe_op op_add pe_int (pe_fn F_law_take (hr.mono (by decide)) (pa_cons (pv 0) (pa_cons (pe_ix ix_list (pe_lst (pa_cons pe_int (pa_cons pe_int (pa_cons (pe_op op_sub (pe_op op_pow pe_int pe_int) pe_int) pa_nil)))) (pe_fn F_law_take (hr.mono (by decide)) (pa_cons (pv 0) (pa_cons pe_int pa_nil))) (fun _ _ => rfl)) pa_nil)))) pe_bl rfl)))
      (pss_cons (ps_setLc (i := 3) (own := [("number", 4)]) (g := (gName 4)) (tt := tYes) rfl sc_law_text.nd rfl rfl (sw_true rfl rfl rfl (by decide +kernel)) (pi_list (pe_callB (cr_sortDK rfl) (by rfl) m_sorted (by decide +kernel) (pa_cons (pv 1) pa_nil))) (blkOk_by (N := N_law_text) (sc := defScope s_law_text) (by decide +kernel)) (fun _ _ _ _ _ => (pg_name (i := 4) sc_law_text.nd rfl (Or.inl rfl))) (fun _ _ _ _ _ => pts_nil) (fun _ _ _ _ _ => (pe_op op_add_str (pe_op op_add_str (pe_callTy call_str_int (by rfl) m_str (by decide +kernel) (pa_cons (pv 4) pa_nil)) pe_str) (pe_callTy call_str_int (by rfl) m_str (by decide +kernel) (pa_cons (pe_op op_add pe_int (pe_fn F_law_take (hr.mono (by decide)) (pa_cons (pv 0) (pa_cons pe_int pa_nil)))) pa_nil)))))
      (pss_one (ps_ret (pe_ifExp (pt_cmpR (op_eqD hr.units) (pv 3) (pe_lst pa_nil) (nomark _)) pe_str (pe_joinT pe_str (pv 3)))))))))
theorem ok_law_bad (F : FnP K "_law_bad" s_law_bad f fd) (g : mg "_law_bad" = some (.ref f)) (F_law_take : Fn P w K mg base "_law_take" 1 ["deck", "many"] (sp_law_take K)) (m_len : mg "len" = none) : Fn P w K mg base "_law_bad" 2 ["deck"] (sp_law_bad K) := by
  refine ⟨f, fd, F.ok (k := 1) sc_law_bad (fun vs H Q E h => by first | (obtain ⟨_, _, rfl, _⟩ := h; rfl) | (obtain ⟨_, _, _, rfl, _⟩ := h; rfl) | (obtain ⟨_, _, _, _, rfl, _⟩ := h; rfl) | (obtain ⟨_, _, _, _, _, rfl, _⟩ := h; rfl) | (obtain ⟨_, _, _, _, _, _, rfl, _⟩ := h; rfl) | (obtain ⟨_, _, _, _, _, _, _, rfl, _⟩ := h; rfl) | (obtain ⟨_, _, _, _, _, _, _, _, rfl, _⟩ := h; rfl) | (obtain ⟨_, _, _, _, _, _, _, _, _, rfl, _⟩ := h; rfl) | (obtain ⟨_, _, _, _, _, _, _, _, _, _, rfl, _⟩ := h; rfl) | (obtain ⟨_, _, _, _, _, _, _, _, _, _, _, rfl, _⟩ := h; rfl) | (obtain ⟨_, _, _, _, _, _, _, _, _, _, _, _, rfl, _⟩ := h; rfl) | (obtain ⟨_, _, _, _, _, _, _, _, _, _, _, _, _, rfl, _⟩ := h; rfl) | (obtain ⟨_, _, _, _, _, _, _, _, _, _, _, _, _, _, rfl, _⟩ := h; rfl) | (obtain ⟨_, _, _, _, _, _, _, _, _, _, _, _, _, _, _, rfl, _⟩ := h; rfl)) (fun cdv A outer s H vs Q E hr h => ⟨t_law_bad K, PSs.nox ?_, r_law_bad h⟩), g, F.kp, F.bindsN fun _ _ _ _ _ _ us hl => match us, hl with | [_], _ => rfl⟩
  exact (pss_fg (pss_cons (ps_set (i := 1) sc_law_bad.nd rfl (Or.inl rfl) (pe_lst (pa_cons pe_str (pa_cons pe_str (pa_cons pe_str (pa_cons pe_str (pa_cons pe_str (pa_cons pe_str (pa_cons pe_str (pa_cons pe_str (pa_cons pe_str (pa_cons pe_str (pa_cons pe_str (pa_cons pe_str (pa_cons pe_str pa_nil)))))))))))))))
      (pss_cons (ps_set (i := 1) sc_law_bad.nd rfl (Or.inl rfl) (pe_op op_cat (pv 1) (pe_lst (pa_cons pe_str (pa_cons pe_str (pa_cons pe_str (pa_cons pe_str (pa_cons pe_str (pa_cons pe_str (pa_cons pe_str (pa_cons pe_str pa_nil)))))))))))
      (pss_cons (ps_set (i := 1) sc_law_bad.nd rfl (Or.inl rfl) (pe_op op_cat (pv 1) (pe_lst (pa_cons pe_str (pa_cons pe_str (pa_cons pe_str (pa_cons pe_str (pa_cons pe_str (pa_cons pe_str (pa_cons pe_str (pa_cons pe_str (pa_cons pe_str pa_nil))))))))))))
      (pss_cons (ps_set (i := 1) sc_law_bad.nd rfl (Or.inl rfl) (pe_op op_cat (pv 1) (pe_lst (pa_cons (pe_op op_add_str (pe_op op_repS pe_str pe_int) pe_str) (pa_cons (pe_op op_add_str pe_str (pe_op op_repS pe_str pe_int)) pa_nil)))))
      (pss_cons (ps_set (i := 2) sc_law_bad.nd rfl (Or.inl rfl) pe_str)
      (pss_cons (ps_set (i := 3) sc_law_bad.nd rfl (Or.inl rfl) (pe_ix ix_str (pv 2) (pe_fn F_law_take (hr.mono (by decide)) (pa_cons (pv 0) (pa_cons (pe_callB call_len_str (by rfl) m_len (by decide +kernel) (pa_cons (pv 2) pa_nil)) pa_nil))) (fun _ _ => rfl)))
      (pss_cons (ps_set (i := 1) sc_law_bad.nd rfl (Or.inl rfl) (pe_op op_cat (pv 1) (pe_lst (pa_cons (pv 3) (pa_cons (pe_op op_add_str pe_str (pv 3)) (pa_cons (pe_op op_add_str (pe_op op_add_str pe_str (pv 3)) pe_str) (pa_cons (pe_op op_add_str (pv 3) pe_str) pa_nil)))))))
      (pss_one (ps_ret (pe_ix ix_list (pv 1) (pe_fn F_law_take (hr.mono (by decide)) (pa_cons (pv 0) (pa_cons (pe_callB call_len_seq (by rfl) m_len (by decide +kernel) (pa_cons (pv 1) pa_nil)) pa_nil))) (fun _ _ => rfl))))))))))))
theorem ok_law_spoilt (F : FnP K "_law_spoilt" s_law_spoilt f fd) (g : mg "_law_spoilt" = some (.ref f)) (F_law_take : Fn P w K mg base "_law_take" 1 ["deck", "many"] (sp_law_take K)) (F_law_bad : Fn P w K mg base "_law_bad" 2 ["deck"] (sp_law_bad K)) (m_len : mg "len" = none) : Fn P w K mg base "_law_spoilt" 3 ["deck", "text"] (sp_law_spoilt K) := by
  refine ⟨f, fd, F.ok (k := 2) sc_law_spoilt (fun vs H Q E h => by first | (obtain ⟨_, _, rfl, _⟩ := h; rfl) | (obtain ⟨_, _, _, rfl, _⟩ := h; rfl) | (obtain ⟨_, _, _, _, rfl, _⟩ := h; rfl) | (obtain ⟨_, _, _, _, _, rfl, _⟩ := h; rfl) | (obtain ⟨_, _, _, _, _, _, rfl, _⟩ := h; rfl) | (obtain ⟨_, _, _, _, _, _, _, rfl, _⟩ := h; rfl) | (obtain ⟨_, _, _, _, _, _, _, _, rfl, _⟩ := h; rfl) | (obtain ⟨_, _, _, _, _, _, _, _, _, rfl, _⟩ := h; rfl) | (obtain ⟨_, _, _, _, _, _, _, _, _, _, rfl, _⟩ := h; rfl) | (obtain ⟨_, _, _, _, _, _, _, _, _, _, _, rfl, _⟩ := h; rfl) | (obtain ⟨_, _, _, _, _, _, _, _, _, _, _, _, rfl, _⟩ := h; rfl) | (obtain ⟨_, _, _, _, _, _, _, _, _, _, _, _, _, rfl, _⟩ := h; rfl) | (obtain ⟨_, _, _, _, _, _, _, _, _, _, _, _, _, _, rfl, _⟩ := h; rfl) | (obtain ⟨_, _, _, _, _, _, _, _, _, _, _, _, _, _, _, rfl, _⟩ := h; rfl)) (fun cdv A outer s H vs Q E hr h => ⟨t_law_spoilt K, PSs.nox ?_, r_law_spoilt h⟩), g, F.kp, F.bindsN fun _ _ _ _ _ _ us hl => match us, hl with | [_, _], _ => rfl⟩
  exact (pss_fg (pss_cons (ps_set (i := 2) sc_law_spoilt.nd rfl (Or.inl rfl) (pe_fn F_law_take (hr.mono (by decide)) (pa_cons (pv 0) (pa_cons pe_int pa_nil))))
      (pss_cons (ps_set (i := 3) sc_law_spoilt.nd rfl (Or.inl rfl) (pe_fn F_law_take (hr.mono (by decide)) (pa_cons (pv 0) (pa_cons (pe_op op_add (pe_callB call_len_str (by rfl) m_len (by decide +kernel) (pa_cons (pv 1) pa_nil)) pe_int) pa_nil))))
      (pss_cons (ps_set (i := 4) sc_law_spoilt.nd rfl (Or.inl rfl) (pe_ix ix_str pe_str (pe_fn F_law_take (hr.mono (by decide)) (pa_cons (pv 0) (pa_cons pe_int pa_nil))) (fun _ _ => rfl)))
      (pss_cons (ps_if (pt_cmpR op_eq (pv 2) pe_int (nomark _)) (pss_one (ps_ret (pe_op op_add_str (pe_slice sl_str (pv 1) po_none (po_some (pv 3))) (pe_slice sl_str (pv 1) (po_some (pe_op op_add (pv 3) pe_int)) po_none)))) pss_nil)
      (pss_cons (ps_if (pt_cmpR op_lt (pv 2) pe_int (nomark _)) (pss_one (ps_ret (pe_op op_add_str (pe_op op_add_str (pe_slice sl_str (pv 1) po_none (po_some (pv 3))) (pv 4)) (pe_slice sl_str (pv 1) (po_some (pe_op op_sub (pe_op op_add (pv 3) (pv 2)) pe_int)) po_none)))) pss_nil)
      (pss_cons (ps_set (i := 5) sc_law_spoilt.nd rfl (Or.inl rfl) (pe_splitT (pv 1) pe_str))
      (pss_cons (ps_set (i := 3) sc_law_spoilt.nd rfl (Or.inl rfl) (pe_fn F_law_take (hr.mono (by decide)) (pa_cons (pv 0) (pa_cons (pe_op op_add (pe_callB call_len_seq (by rfl) m_len (by decide +kernel) (pa_cons (pv 5) pa_nil)) pe_int) pa_nil))))
      (pss_cons (ps_if (pt_cmpR op_eq (pv 2) pe_int (nomark _)) (pss_cons (ps_set (i := 6) sc_law_spoilt.nd rfl (Or.inl rfl) (pe_op op_cat (pe_slice sl_list (pv 5) (po_some (pv 3)) (po_some (pe_op op_add (pv 3) pe_int))) (pe_slice sl_list (pv 5) (po_some (pe_op op_add (pv 3) pe_int)) po_none)))
      (pss_one (ps_ret (pe_joinT pe_str (pe_op op_cat (pe_op op_cat (pe_slice sl_list (pv 5) po_none (po_some (pv 3))) (pe_slice sl_list (pv 5) (po_some (pe_op op_add (pv 3) pe_int)) (po_some (pe_op op_add (pv 3) pe_int)))) (pv 6)))))) pss_nil)
      (pss_one (ps_ret (pe_joinT pe_str (pe_op op_cat (pe_op op_cat (pe_slice sl_list (pv 5) po_none (po_some (pv 3))) (pe_lst (pa_cons (pe_fn F_law_bad (hr.mono (by decide)) (pa_cons (pv 0) pa_nil)) pa_nil))) (pe_slice sl_list (pv 5) (po_some (pe_op op_sub (pe_op op_add (pv 3) (pv 2)) pe_int)) po_none))))))))))))))
theorem ok_law (F : FnP K "law" s_law f fd) (F_law_deck : Fn P w K mg base "_law_deck" 1 ["cell", "k"] (sp_law_deck K)) (F_law_text : Fn P w K mg base "_law_text" 2 ["deck"] (sp_law_text K)) (F_law_right : Gn1 P w K mg base "_law_right" 4 ["text"] (sp_law_right K)) (F_law_spoilt : Fn P w K mg base "_law_spoilt" 3 ["deck", "text"] (sp_law_spoilt K)) (m_range : mg "range" = none) (m_str : mg "str" = none) : FnG P w K mg base 5 f fd ["script"] (sp_law K) := by
  refine gn_of F (k := 4) sc_law (fun vs H Q E h => by first | (obtain ⟨_, _, rfl, _⟩ := h; rfl) | (obtain ⟨_, _, _, rfl, _⟩ := h; rfl) | (obtain ⟨_, _, _, _, rfl, _⟩ := h; rfl) | (obtain ⟨_, _, _, _, _, rfl, _⟩ := h; rfl) | (obtain ⟨_, _, _, _, _, _, rfl, _⟩ := h; rfl) | (obtain ⟨_, _, _, _, _, _, _, rfl, _⟩ := h; rfl) | (obtain ⟨_, _, _, _, _, _, _, _, rfl, _⟩ := h; rfl) | (obtain ⟨_, _, _, _, _, _, _, _, _, rfl, _⟩ := h; rfl) | (obtain ⟨_, _, _, _, _, _, _, _, _, _, rfl, _⟩ := h; rfl) | (obtain ⟨_, _, _, _, _, _, _, _, _, _, _, rfl, _⟩ := h; rfl) | (obtain ⟨_, _, _, _, _, _, _, _, _, _, _, _, rfl, _⟩ := h; rfl) | (obtain ⟨_, _, _, _, _, _, _, _, _, _, _, _, _, rfl, _⟩ := h; rfl) | (obtain ⟨_, _, _, _, _, _, _, _, _, _, _, _, _, _, rfl, _⟩ := h; rfl) | (obtain ⟨_, _, _, _, _, _, _, _, _, _, _, _, _, _, _, rfl, _⟩ := h; rfl)) (fun cdv A outer s H vs Q E hr hc h => ⟨t_law K, PSs.nox ?_, r_law h⟩)
  exact (pss_fg (pss_cons (ps_for PassesOwn.never rfl (pi_list (pe_op op_cat (pe_slice sl_list (pv 0) po_none (po_some pe_int)) (pe_lst (pa_cons pe_int (pa_cons pe_int pa_nil))))) (pg_name (i := 1) sc_law.nd rfl (Or.inl rfl)) (pss_cons (ps_set (i := 2) sc_law.nd rfl (Or.inl rfl) (pe_fn F_law_deck (hr.mono (by decide)) (pa_cons (pv 1) (pa_cons pe_int pa_nil))))
      (pss_cons (ps_set (i := 3) sc_law.nd rfl (Or.inl rfl) (pe_fn F_law_text (hr.mono (by decide)) (pa_cons (pv 2) pa_nil)))
      (pss_one (ps_if (PW.pt (pw_or (pt_not (pt_val (pe_gn F_law_right (hr.mono (by decide)) hc (pa_cons (pv 3) pa_nil)))) (pw_or1 (pt_not (pt_val (pe_gn F_law_right (hr.mono (by decide)) hc (pa_cons (pe_fn F_law_spoilt (hr.mono (by decide)) (pa_cons (pv 2) (pa_cons (pv 3) pa_nil))) pa_nil))))))) (pss_one (ps_ret pe_bl)) pss_nil)))))
      (pss_cons (ps_setLc (i := 4) (own := [("number", 5)]) (g := (gName 5)) (tt := tYes) rfl sc_law.nd rfl rfl (sw_true rfl rfl rfl (by decide +kernel)) (pi_range2 (by rfl) m_range (pa_cons pe_int (pa_cons pe_int pa_nil))) (blkOk_by (N := N_law) (sc := defScope s_law) (by decide +kernel)) (fun _ _ _ _ _ => (pg_name (i := 5) sc_law.nd rfl (Or.inl rfl))) (fun _ _ _ _ _ => pts_nil) (fun _ _ _ _ _ => (pe_op op_add_str (pe_callTy call_str_int (by rfl) m_str (by decide +kernel) (pa_cons (pv 5) pa_nil)) pe_str)))
      (pss_cons (ps_if (PW.pt (pw_or (pt_not (pt_val (pe_gn F_law_right (hr.mono (by decide)) hc (pa_cons (pe_joinT pe_str (pv 4)) pa_nil)))) (pw_or1 (pt_not (pt_val (pe_gn F_law_right (hr.mono (by decide)) hc (pa_cons (pe_op op_repS pe_str pe_int) pa_nil))))))) (pss_one (ps_ret pe_bl)) pss_nil)
      (pss_one (ps_ret (pe_gn F_law_right (hr.mono (by decide)) hc (pa_cons (pe_joinT pe_str (pe_op op_cat (pv 4) (pe_lst (pa_cons pe_str pa_nil)))) pa_nil))))))))
end
/-! ### what the top has left -/
def d_law_number_in : He.DefD := ⟨("_law_number_in", none), "_law_number_in", "_law_number_in", defArgs s_law_number_in, defBody s_law_number_in, defScope s_law_number_in, [], []⟩
def d_law_due : He.DefD := ⟨("_law_due", none), "_law_due", "_law_due", defArgs s_law_due, defBody s_law_due, defScope s_law_due, [], []⟩
def d_read_number : He.DefD := ⟨("read_number", none), "read_number", "read_number", defArgs s_read_number, defBody s_read_number, defScope s_read_number, [], []⟩
def d_read_part : He.DefD := ⟨("read_part", none), "read_part", "read_part", defArgs s_read_part, defBody s_read_part, defScope s_read_part, [], []⟩
def d_read_parts : He.DefD := ⟨("read_parts", none), "read_parts", "read_parts", defArgs s_read_parts, defBody s_read_parts, defScope s_read_parts, [], []⟩
def d_show_parts : He.DefD := ⟨("show_parts", none), "show_parts", "show_parts", defArgs s_show_parts, defBody s_show_parts, defScope s_show_parts, [], []⟩
def d_law_right : He.DefD := ⟨("_law_right", none), "_law_right", "_law_right", defArgs s_law_right, defBody s_law_right, defScope s_law_right, [], []⟩
def d_law_deck : He.DefD := ⟨("_law_deck", none), "_law_deck", "_law_deck", defArgs s_law_deck, defBody s_law_deck, defScope s_law_deck, [], []⟩
def d_law_take : He.DefD := ⟨("_law_take", none), "_law_take", "_law_take", defArgs s_law_take, defBody s_law_take, defScope s_law_take, [], []⟩
def d_law_text : He.DefD := ⟨("_law_text", none), "_law_text", "_law_text", defArgs s_law_text, defBody s_law_text, defScope s_law_text, [], []⟩
def d_law_bad : He.DefD := ⟨("_law_bad", none), "_law_bad", "_law_bad", defArgs s_law_bad, defBody s_law_bad, defScope s_law_bad, [], []⟩
def d_law_spoilt : He.DefD := ⟨("_law_spoilt", none), "_law_spoilt", "_law_spoilt", defArgs s_law_spoilt, defBody s_law_spoilt, defScope s_law_spoilt, [], []⟩
def d_law : He.DefD := ⟨("law", none), "law", "law", defArgs s_law, defBody s_law, defScope s_law, [], []⟩
def fn : List He.DefD := [d_law_number_in, d_law_due, d_read_number, d_read_part, d_read_parts, d_show_parts, d_law_right, d_law_deck, d_law_take, d_law_text, d_law_bad, d_law_spoilt, d_law]
def fa : List He.Fa := [(.glo "_law_number_in" : He.Fa), (.glo "_law_due" : He.Fa), (.glo "read_number" : He.Fa), (.glo "read_part" : He.Fa), (.glo "read_parts" : He.Fa), (.glo "show_parts" : He.Fa), (.glo "_law_right" : He.Fa), (.glo "_law_deck" : He.Fa), (.glo "_law_take" : He.Fa), (.glo "_law_text" : He.Fa), (.glo "_law_bad" : He.Fa), (.glo "_law_spoilt" : He.Fa), (.glo "law" : He.Fa), (.free "ValueError" : He.Fa), (.free "all" : He.Fa), (.free "int" : He.Fa), (.free "isinstance" : He.Fa), (.free "len" : He.Fa), (.free "range" : He.Fa), (.free "repr" : He.Fa), (.free "sorted" : He.Fa), (.free "str" : He.Fa), (.str "FIGURES" (PySem.Str.ofString "0123456789") : He.Fa), (.int "MOST_FIGURES" 9 : He.Fa), (.int "MOST_TIMES" 2 : He.Fa), (.glo "NoCommand" : He.Fa), (.glo "NoNumber" : He.Fa), (.glo "NoPlace" : He.Fa), (.glo "NoPrimes" : He.Fa), (.glo "NoText" : He.Fa), (.glo "PartError" : He.Fa)]
def ls : List (Str × List He.Dv) := []
abbrev R : PySem.W.OpenRow := PySem.W.OpenLaw.row PySem.Challenge.rw_smallparts_k48_texts_of_no_parts
abbrev hk : PySem.W.Hook := hookX 4 fa fn ls
def ob (s : PySem.W.SharedT) : AlX := obsX 4 fa fn ls (HandSHeadRun.getT s)
theorem ob_eq (s : PySem.W.SharedT) : ob s = hk.obs s.abs := obsX_eq (HandSHeadRun.getT_eq s)
def loose : List Str := [("PartError" : Str), ("NoPrimes" : Str), ("NoPlace" : Str), ("NoNumber" : Str), ("NoText" : Str), ("NoCommand" : Str), ("FIGURES" : Str), ("MOST_FIGURES" : Str), ("MOST_TIMES" : Str), ("read_number" : Str), ("read_part" : Str), ("show_parts" : Str), ("read_parts" : Str), ("_law_cell_at" : Str), ("_law_take" : Str), ("_law_deck" : Str), ("_law_text" : Str), ("_law_bad" : Str), ("_law_spoilt" : Str), ("_law_number_in" : Str), ("_law_due" : Str), ("_law_right" : Str)]
theorem run (w : World) : HandSHeadRun.RunEq R (PySem.W.view R.prog [25]) hk ob 4000 loose w := by
  intro os
  kernel_rfl
theorem facts {P : Program} {w : World} {K : PySem.W.Frag} {h : Heap} {mg : Str → Option Value} {f : Addr} (X : K.In h) (G : h.Ns mainGlobals mg) (hfa : mg ("law" : Str) = some (.ref f)) (c : He.SaysD fa fn K) (cl : (ls.all fun q => He.lstB K q.1 q.2) = true) (ce : errB K = true) :
    ∃ fd : FuncData, (∀ (s : Shared) (v : Value), BindsTo s fd ⟨[v], []⟩ [("script", v)]) ∧ ∀ base : Heap, K.In base → base.Ns mainGlobals mg → FnG P w K mg base 5 f fd ["script"] (sp_law K) := by
  obtain ⟨fd_law_number_in, H_law_number_in⟩ := c.def_ 0 (d := d_law_number_in) rfl
  obtain ⟨fd_law_due, H_law_due⟩ := c.def_ 1 (d := d_law_due) rfl
  obtain ⟨fd_read_number, H_read_number⟩ := c.def_ 2 (d := d_read_number) rfl
  obtain ⟨fd_read_part, H_read_part⟩ := c.def_ 3 (d := d_read_part) rfl
  obtain ⟨fd_read_parts, H_read_parts⟩ := c.def_ 4 (d := d_read_parts) rfl
  obtain ⟨fd_show_parts, H_show_parts⟩ := c.def_ 5 (d := d_show_parts) rfl
  obtain ⟨fd_law_right, H_law_right⟩ := c.def_ 6 (d := d_law_right) rfl
  obtain ⟨fd_law_deck, H_law_deck⟩ := c.def_ 7 (d := d_law_deck) rfl
  obtain ⟨fd_law_take, H_law_take⟩ := c.def_ 8 (d := d_law_take) rfl
  obtain ⟨fd_law_text, H_law_text⟩ := c.def_ 9 (d := d_law_text) rfl
  obtain ⟨fd_law_bad, H_law_bad⟩ := c.def_ 10 (d := d_law_bad) rfl
  obtain ⟨fd_law_spoilt, H_law_spoilt⟩ := c.def_ 11 (d := d_law_spoilt) rfl
  obtain ⟨fd_law, H_law⟩ := c.def_ 12 (d := d_law) rfl
  have hX : Errs K := errB_ok ce
  have g_NoCommand := He.glo_ok X G (c.fact 25 (f := .glo "NoCommand") rfl)
  have g_NoNumber := He.glo_ok X G (c.fact 26 (f := .glo "NoNumber") rfl)
  have g_NoPlace := He.glo_ok X G (c.fact 27 (f := .glo "NoPlace") rfl)
  have g_NoPrimes := He.glo_ok X G (c.fact 28 (f := .glo "NoPrimes") rfl)
  have g_NoText := He.glo_ok X G (c.fact 29 (f := .glo "NoText") rfl)
  have g_PartError := He.glo_ok X G (c.fact 30 (f := .glo "PartError") rfl)
  have m_ValueError := He.free_ok X G (c.fact 13 (f := .free "ValueError") rfl)
  have m_all := He.free_ok X G (c.fact 14 (f := .free "all") rfl)
  have m_int := He.free_ok X G (c.fact 15 (f := .free "int") rfl)
  have m_isinstance := He.free_ok X G (c.fact 16 (f := .free "isinstance") rfl)
  have m_len := He.free_ok X G (c.fact 17 (f := .free "len") rfl)
  have m_range := He.free_ok X G (c.fact 18 (f := .free "range") rfl)
  have m_repr := He.free_ok X G (c.fact 19 (f := .free "repr") rfl)
  have m_sorted := He.free_ok X G (c.fact 20 (f := .free "sorted") rfl)
  have m_str := He.free_ok X G (c.fact 21 (f := .free "str") rfl)
  have g_FIGURES := He.str_ok X G (c.fact 22 (f := .str "FIGURES" (PySem.Str.ofString "0123456789")) rfl)
  have g_MOST_FIGURES := He.int_ok X G (c.fact 23 (f := .int "MOST_FIGURES" 9) rfl)
  have g_MOST_TIMES := He.int_ok X G (c.fact 24 (f := .int "MOST_TIMES" 2) rfl)
  have g_law_number_in := He.glo_ok X G (c.fact 0 (f := .glo "_law_number_in") rfl)
  have g_law_due := He.glo_ok X G (c.fact 1 (f := .glo "_law_due") rfl)
  have g_read_number := He.glo_ok X G (c.fact 2 (f := .glo "read_number") rfl)
  have g_read_part := He.glo_ok X G (c.fact 3 (f := .glo "read_part") rfl)
  have g_read_parts := He.glo_ok X G (c.fact 4 (f := .glo "read_parts") rfl)
  have g_show_parts := He.glo_ok X G (c.fact 5 (f := .glo "show_parts") rfl)
  have g_law_right := He.glo_ok X G (c.fact 6 (f := .glo "_law_right") rfl)
  have g_law_deck := He.glo_ok X G (c.fact 7 (f := .glo "_law_deck") rfl)
  have g_law_take := He.glo_ok X G (c.fact 8 (f := .glo "_law_take") rfl)
  have g_law_text := He.glo_ok X G (c.fact 9 (f := .glo "_law_text") rfl)
  have g_law_bad := He.glo_ok X G (c.fact 10 (f := .glo "_law_bad") rfl)
  have g_law_spoilt := He.glo_ok X G (c.fact 11 (f := .glo "_law_spoilt") rfl)
  have g_law := He.glo_ok X G (c.fact 12 (f := .glo "law") rfl)
  have e := hfa.symm.trans g_law
  cases e
  have b := FunD.bindsA (ps := ["script"]) H_law fun _ _ _ _ _ _ us hl => match us, hl with | [_], _ => rfl
  refine ⟨fd_law, fun s v => b s [v] rfl, fun base _ _ => ?_⟩
  have F_law_number_in := ok_law_number_in (P := P) (w := w) (base := base) H_law_number_in g_law_number_in m_all m_int m_len
  have F_law_due := ok_law_due (P := P) (w := w) (base := base) H_law_due g_law_due F_law_number_in m_len
  have F_read_number := ok_read_number (P := P) (w := w) (base := base) H_read_number g_read_number m_int m_len g_FIGURES g_NoText hX
  have F_read_part := ok_read_part (P := P) (w := w) (base := base) H_read_part g_read_part F_read_number m_len g_MOST_FIGURES g_MOST_TIMES g_NoText hX
  have F_read_parts := ok_read_parts (P := P) (w := w) (base := base) H_read_parts g_read_parts F_read_part m_len m_range g_NoText hX
  have F_show_parts := ok_show_parts (P := P) (w := w) (base := base) H_show_parts g_show_parts 
  have F_law_right := ok_law_right (P := P) (w := w) (base := base) H_law_right g_law_right F_read_parts F_law_due F_show_parts m_ValueError m_isinstance m_repr g_NoCommand g_NoNumber g_NoPlace g_NoPrimes g_NoText g_PartError hX
  have F_law_deck := ok_law_deck (P := P) (w := w) (base := base) H_law_deck g_law_deck 
  have F_law_take := ok_law_take (P := P) (w := w) (base := base) H_law_take g_law_take 
  have F_law_text := ok_law_text (P := P) (w := w) (base := base) H_law_text g_law_text F_law_take m_int m_range m_sorted m_str
  have F_law_bad := ok_law_bad (P := P) (w := w) (base := base) H_law_bad g_law_bad F_law_take m_len
  have F_law_spoilt := ok_law_spoilt (P := P) (w := w) (base := base) H_law_spoilt g_law_spoilt F_law_take F_law_bad m_len
  exact ok_law H_law F_law_deck F_law_text F_law_right F_law_spoilt m_range m_str
end K48
open PySem PySem.W PySem.Calls PyProof.Rows
theorem PySem.Challenge.cw_smallparts_k48_texts_of_no_parts_holds : PySem.Challenge.rw_smallparts_k48_texts_of_no_parts.Holds := by
  w_on; o_law
  refine HandSHeadRun.head_any (r := OpenLaw.row PySem.Challenge.rw_smallparts_k48_texts_of_no_parts) (q := view (OpenLaw.row PySem.Challenge.rw_smallparts_k48_texts_of_no_parts).prog [25]) (H := K48.hk) (ob := K48.ob) (M := 4000) (loose := K48.loose) (d := HandSHeadRun.topDef (OpenLaw.row PySem.Challenge.rw_smallparts_k48_texts_of_no_parts).prog 25) (kwd := []) K48.ob_eq
    (by kernel_rfl) (fun s => by kernel_rfl) K48.run (by kernel_rfl) (by kernel_rfl) (by kernel_rfl) (by rfl) (by first | assumption | decide +kernel) (by decide +kernel) ⟨rfl, rfl, rfl, rfl, rfl, by decide +kernel⟩ ?hw ?hc
  case hw => w_witness2
  case hc =>
    refine Px.walkG (l := PySem.Challenge.rw_smallparts_k48_texts_of_no_parts) (n := 63) (k := 5) (x := "script") rfl (by decide) (by kernel_rfl) ⟨rfl, by decide, by decide⟩ ?F
    intro w mg fa h Y G hmg0
    obtain ⟨K, KX, c, cl, ce⟩ := Y
    have hmg : mg ("law" : PySem.Str) = some (.ref fa) := by
      have e : (HandSHeadRun.topDef (OpenLaw.row PySem.Challenge.rw_smallparts_k48_texts_of_no_parts).prog 25).name = ("law" : PySem.Str) := by kernel_rfl
      rw [← e]
      exact hmg0
    obtain ⟨fd, hb, hF⟩ := K48.facts (P := (PySem.Challenge.rw_smallparts_k48_texts_of_no_parts).prog) (w := w) KX G hmg c cl ce
    exact ⟨K, fd, Px.sp_law K, KX, hb, fun H a ns hl ho hS => ⟨Px.nod_only ho, a, ns, rfl, hS, hl, fun _ => rfl⟩, hF⟩
