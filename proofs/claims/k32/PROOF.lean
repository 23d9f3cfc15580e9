import PyProof.Rows.All
import Wide.All
import OpenK.AllK
import Wide.FinOn
import HandS.HeadHook2
import HandS.ForMost
import HandS.ForExc
import HandS.Style
import HandS.SortInts
import HandS.IsInst
import HandS.Wide
import HandS.Flow
import HandS.WideMore
import HandS.Walk
import HandS.Evl
import HandS.Defaults
import PyProof.Rows.StrMul
import PyProof.StrBlock2
import KE.KDictZip
import KE.KDictItemsList
import HandS.ExcIs
import HandS.ExcOwn
import HandS.HeadHook1
import HandS.ExcBuiltin
import HandS.ExcValue
import KE.KExcIs
import PyProof.NeKinds
import HandS.DictComp
import HandS.SetFor
import HandS.DictTup
import HandS.More
import KE.KDictWalk
import HandS.HeadEnd
import HandS.Words
import PyProof.ReprRoads
import PyProof.CallFns
import KE.KDictPairs
import PyProof.ReprLen
import PyProof.StrLawsRepr
import HandS.TryMany
import HandS.Dict
import KE.KTryMore
import KE.KStateDown
import Lean
import HandS.Base
import HandS.Call
import HandS.Ends
import HandS.WordsExc
import HandS.Head0
import HandS.Head1
import HandS.Head2
import PySem.Challenge.RW_smallparts_k32_whole_again_and_shared
set_option Elab.async false
set_option linter.all false
namespace Px
open PySem L2
/-! what the top has left, with lists of the module's own -/
abbrev AlL : Type := He.AlD × Bool
def obsL (n : Nat) (fa : List He.Fa) (fn : List He.DefD) (ls : List (Str × List He.Dv)) (g : Addr → Option Obj) : AlL :=
  (He.obsD fa fn (He.frG g (He.asD g n)), ls.all fun q => He.lstB (He.frG g (He.asD g n)) q.1 q.2)
def hookL (n : Nat) (fa : List He.Fa) (fn : List He.DefD) (ls : List (Str × List He.Dv)) : PySem.W.Hook where
  α := AlL
  obs := fun s => obsL n fa fn ls s.heap.get?
  val := fun _ => (He.valD fn, true)
  says := fun _ h => ∃ K : PySem.W.Frag, K.In h ∧ He.SaysD fa fn K ∧ (ls.all fun q => He.lstB K q.1 q.2) = true
  of := fun _ _ e => ⟨_, He.frG_in, congrArg (fun z : AlL => z.1) e, congrArg (fun z : AlL => z.2) e⟩
  keeps := fun _ _ _ ⟨K, hK, c1, c2⟩ k => ⟨K, PySem.W.Frag.In.keeps hK k, c1, c2⟩
theorem obsL_eq {n : Nat} {fa : List He.Fa} {fn : List He.DefD} {ls : List (Str × List He.Dv)} {g : Addr → Option Obj} {s : Shared} (h : ∀ a, g a = s.heap.get? a) : obsL n fa fn ls g = (hookL n fa fn ls).obs s := by
  have e : g = s.heap.get? := funext h
  subst e; rfl
theorem lst_fact {ls : List (Str × List He.Dv)} {K : PySem.W.Frag} (h : (ls.all fun q => He.lstB K q.1 q.2) = true) (i : Nat) {x : Str} {vs : List He.Dv} (e : ls[i]? = some (x, vs)) : He.lstB K x vs = true := List.all_eq_true.mp h (x, vs) (List.mem_of_getElem? e)
end Px
set_option Elab.async false
set_option linter.all false
set_option maxRecDepth 100000
set_option maxHeartbeats 4000000
namespace Px
open PySem L2

/-! ### forgetting what is no longer needed -/
def flat : HO → Prop
  | .dT _ => False
  | .frz _ u => flat u
  | _ => True
class Nod (H : Hp) : Prop where
  nod : ∀ a o, H a = some o → flat o
theorem nod_upd {H : Hp} {p : Addr} {o : HO} (n : Nod H) (f : flat o) : Nod (upd H p o) := ⟨fun a u e => by
  by_cases h : a = p
  · subst h
    rw [upd_same] at e
    cases e
    exact f
  · rw [upd_ne h] at e
    exact n.nod a u e⟩
instance nod_lst {H : Hp} {p : Addr} {xs : List V} [n : Nod H] : Nod (upd H p (.lst xs)) := nod_upd n trivial
instance nod_tup {H : Hp} {p : Addr} {xs : List V} [n : Nod H] : Nod (upd H p (.tup xs)) := nod_upd n trivial
instance nod_dK {H : Hp} {p : Addr} {xs : List (Key × V)} [n : Nod H] : Nod (upd H p (.dK xs)) := nod_upd n trivial
instance nod_ins {H : Hp} {p C dx : Addr} {fs : List (Str × V)} [n : Nod H] : Nod (upd H p (.ins C dx fs)) := nod_upd n trivial
instance nod_own {H : Hp} {p x : Addr} [n : Nod H] : Nod (upd H p (.own x)) := nod_upd n trivial
theorem nod_only {H : Hp} (h : Only H) : Nod H := ⟨fun a o e => by
  rcases h a with z | ⟨ob, xs, z⟩
  · rw [z] at e; cases e
  · rw [z] at e; cases e; trivial⟩

/-- all that was tracked is as it was -/
def Ex (H H' : Hp) : Prop := ∀ a o, H a = some o → H' a = some o
theorem ex_refl {H : Hp} : Ex H H := fun _ _ h => h
theorem ex_trans {H H1 H2 : Hp} (a : Ex H H1) (b : Ex H1 H2) : Ex H H2 := fun x o h => b x o (a x o h)
theorem ex_upd {H H' : Hp} {p : Addr} {o : HO} (h : H p = none) (e : Ex H H') : Ex H (upd H' p o) := fun a u ha => by
  rw [upd_ne (ne_of_none ha h)]
  exact e a u ha
theorem ex_new {H : Hp} {p : Addr} {o : HO} (h : H p = none) : Ex H (upd H p o) := ex_upd h ex_refl
theorem ex_none {H H' : Hp} {p : Addr} (e : Ex H H') (h : H' p = none) : H p = none := by
  cases q : H p with
  | none => rfl
  | some o => rw [e p o q] at h; cases h
theorem none_upd {H : Hp} {p q : Addr} {o : HO} (h : upd H q o p = none) : H p = none ∧ p ≠ q := by
  by_cases e : p = q
  · subst e; rw [upd_same] at h; cases h
  · rw [upd_ne e] at h; exact ⟨h, e⟩
theorem ex_sq {K : PySem.W.Frag} {H H' : Hp} {a : Addr} {xs : List V} (e : Ex H H') (h : SqL K H a xs) : SqL K H' a xs := by
  rcases h with (h | ⟨o, h⟩) | h
  · exact .inl (.inl (e _ _ h))
  · exact .inl (.inr ⟨o, e _ _ h⟩)
  · exact .inr h
theorem ex_sqt {K : PySem.W.Frag} {H H' : Hp} {a : Addr} {xs : List V} (e : Ex H H') (h : SqT K H a xs) : SqT K H' a xs := by
  rcases h with (h | ⟨o, h⟩) | h
  · exact .inl (.inl (e _ _ h))
  · exact .inl (.inr ⟨o, e _ _ h⟩)
  · exact .inr h
theorem sq_new {K : PySem.W.Frag} {H : Hp} {a p : Addr} {xs : List V} {o : HO} (hp : H p = none) (h : SqL K H a xs) : SqL K (upd H p o) a xs := ex_sq (ex_new hp) h
theorem sq_ne {K : PySem.W.Frag} {H : Hp} {a p : Addr} {xs : List V} {o : HO} (hp : a ≠ p) (h : SqL K H a xs) : SqL K (upd H p o) a xs := by
  rcases h with (h | ⟨ob, h⟩) | h
  · exact .inl (.inl (by rw [upd_ne hp]; exact h))
  · exact .inl (.inr ⟨ob, by rw [upd_ne hp]; exact h⟩)
  · exact .inr h
theorem sq_at {K : PySem.W.Frag} {H : Hp} {a : Addr} {xs : List V} (h : H a = some (.lst xs)) : SqL K H a xs := .inl (.inl h)
theorem st_at {K : PySem.W.Frag} {H : Hp} {a : Addr} {xs : List V} (h : H a = some (.tup xs)) : SqT K H a xs := .inl (.inl h)
theorem sq_up {K : PySem.W.Frag} {H : Hp} {a : Addr} {xs : List V} : SqL K (upd H a (.lst xs)) a xs := sq_at upd_same

structure Fg (H H' H'' : Hp) : Prop where
  sub : ∀ a o, H'' a = some o → H' a = some o
  old : ∀ a o, H a = some o → H'' a = H' a
  own : ∀ a x, H a = some (.own x) → H' a = some (.own x)
  ins : ∀ a C dx fs, H'' a = some (.ins C dx fs) → ∃ fs', H a = some (.ins C dx fs')
  frz : ∀ a o u, H'' a = some (.frz o u) → H a = some (.frz o u)
  nod : ∀ a o, H'' a = some o → flat o
theorem ok_keep {P : Program} {w : World} {H H' H'' : Hp} {h h' : Heap} {a : Addr} {u : HO} (f : flat u) (x : ObjOk P w H h a u) (y : ObjOk P w H' h' a u) (k : ∀ b z, H b = some (.own z) → H'' b = some (.own z)) : ObjOk P w H'' h' a u := by
  induction u with
  | ins C dx fs =>
    obtain ⟨d, _⟩ := x
    obtain ⟨_, r⟩ := y
    exact ⟨k _ _ d, r⟩
  | dT kvs => exact f.elim
  | frz ob u ih =>
    obtain ⟨_, x2⟩ := x
    obtain ⟨y1, y2⟩ := y
    exact ⟨y1, ih f x2 y2⟩
  | lst xs => obtain ⟨z, its, m, r, e⟩ := y; exact ⟨z, its, m, r, e⟩
  | tup xs => obtain ⟨z, its, r, ob, e, c⟩ := y; exact ⟨z, its, r, ob, e, c⟩
  | dK kvs => obtain ⟨z, w1, vs, r, ob, es, ep, e, c⟩ := y; exact ⟨z, w1, vs, r, ob, es, ep, e, c⟩
  | set S m => obtain ⟨ob, es, ep, t, e, c⟩ := y; exact ⟨ob, es, ep, t, e, c⟩
  | own z => obtain ⟨ob, e⟩ := y; exact ⟨ob, e⟩
  | xd fs => obtain ⟨mA, ⟨od, es, ep, e, c⟩, r⟩ := y; exact ⟨mA, ⟨od, es, ep, e, c⟩, r⟩
  | met g z => have e : h'.get? a = some (PySem.W.methodObj (.ref g) (.ref z)) := y; show h'.get? a = some (PySem.W.methodObj (.ref g) (.ref z)); exact e
  | rng lo hi => obtain ⟨t, u, v, e⟩ := y; exact ⟨t, u, v, e⟩
  | tbl ps => have e : h'.get? a = some { cls := .none, data := .fields ps } := y; show h'.get? a = some { cls := .none, data := .fields ps }; exact e
  | ext p => obtain ⟨q, ⟨o, e⟩, st⟩ := y; exact ⟨q, ⟨o, e⟩, st⟩
theorem ok_plain {P : Program} {w : World} {H' H'' : Hp} {h' : Heap} {a : Addr} {u : HO} (f : flat u) (n1 : ∀ C dx fs, u ≠ .ins C dx fs) (n2 : ∀ ob v, u ≠ .frz ob v) (y : ObjOk P w H' h' a u) : ObjOk P w H'' h' a u := by
  cases u with
  | ins C dx fs => exact absurd rfl (n1 C dx fs)
  | dT kvs => exact f.elim
  | frz ob u => exact absurd rfl (n2 ob u)
  | lst xs => obtain ⟨z, its, m, r, e⟩ := y; exact ⟨z, its, m, r, e⟩
  | tup xs => obtain ⟨z, its, r, ob, e, c⟩ := y; exact ⟨z, its, r, ob, e, c⟩
  | dK kvs => obtain ⟨z, w1, vs, r, ob, es, ep, e, c⟩ := y; exact ⟨z, w1, vs, r, ob, es, ep, e, c⟩
  | set S m => obtain ⟨ob, es, ep, t, e, c⟩ := y; exact ⟨ob, es, ep, t, e, c⟩
  | own z => obtain ⟨ob, e⟩ := y; exact ⟨ob, e⟩
  | xd fs => obtain ⟨mA, ⟨od, es, ep, e, c⟩, r⟩ := y; exact ⟨mA, ⟨od, es, ep, e, c⟩, r⟩
  | met g z => have e : h'.get? a = some (PySem.W.methodObj (.ref g) (.ref z)) := y; show h'.get? a = some (PySem.W.methodObj (.ref g) (.ref z)); exact e
  | rng lo hi => obtain ⟨t, u, v, e⟩ := y; exact ⟨t, u, v, e⟩
  | tbl ps => have e : h'.get? a = some { cls := .none, data := .fields ps } := y; show h'.get? a = some { cls := .none, data := .fields ps }; exact e
  | ext p => obtain ⟨q, ⟨o, e⟩, st⟩ := y; exact ⟨q, ⟨o, e⟩, st⟩
theorem fg_ok {P : Program} {w : World} {H H' H'' : Hp} {h h' : Heap} (x : HOk P w H h) (y : HOk P w H' h') (f : Fg H H' H'') : HOk P w H'' h' := fun a o e => by
  have ko : ∀ b z, H b = some (.own z) → H'' b = some (.own z) := fun b z q => (f.old b _ q).trans (f.own b z q)
  have y1 := y a o (f.sub a o e)
  have fl := f.nod a o e
  by_cases hi : ∃ C dx fs, o = .ins C dx fs
  · obtain ⟨C, dx, fs, rfl⟩ := hi
    obtain ⟨fs', q⟩ := f.ins a C dx fs e
    obtain ⟨d, _⟩ := x a _ q
    obtain ⟨_, r⟩ := y1
    exact ⟨ko _ _ d, r⟩
  · by_cases hf : ∃ ob u, o = .frz ob u
    · obtain ⟨ob, u, rfl⟩ := hf
      exact ok_keep fl (x a _ (f.frz a ob u e)) y1 ko
    · exact ok_plain fl (fun C dx fs z => hi ⟨C, dx, fs, z⟩) (fun ob u z => hf ⟨ob, u, z⟩) y1
theorem fg_none {H H' H'' : Hp} (f : Fg H H' H'') {a : Addr} (h : H' a = none) : H'' a = none := by
  cases q : H'' a with
  | none => rfl
  | some o => rw [f.sub a o q] at h; cases h
theorem inv_fg {X : Cx} {pins pins' : List (Addr × Obj)} {σ σ' : L2.St} {H H' H'' : Hp} {s s' : Shared} (I : Inv X pins σ H s) (J : Inv X pins' σ' H' s') (f : Fg H H' H'') : Inv X pins' σ' H'' s' where
  ok := J.ok
  os := J.os
  bare := J.bare
  base := {
    keep := J.base.keep
    slot := J.base.slot
    free := fun b o q n hx => fg_none f (J.base.free b o q n hx)
    there := J.base.there
    tups := fun b xs q => (f.old b _ (I.base.tups b xs q)).trans (J.base.tups b xs q)
    frzs := fun b o u q => (f.old b _ (I.base.frzs b o u q)).trans (J.base.frzs b o u q)
    tbls := fun b ps q => by
      obtain ⟨m1, e1⟩ := I.base.tbls b ps q
      obtain ⟨m2, e2⟩ := J.base.tbls b ps q
      exact ⟨m2, (f.old b _ e1).trans e2⟩ }
  loc := J.loc
  cell := J.cell
  free := fg_none f J.free
  freeC := fun x c e => fg_none f (J.freeC x c e)
  pin := fun p hp => by
    obtain ⟨a, b, c, d, e⟩ := J.pin p hp
    exact ⟨a, fg_none f b, c, d, e⟩
  hok := fg_ok I.hok J.hok f
  len := J.len

theorem fg_same {H H' : Hp} [n : Nod H] (e : Ex H H') : Fg H H' H :=
  ⟨e, fun a o h => h.trans (e a o h).symm, fun a x h => e a _ h, fun a C dx fs h => ⟨fs, h⟩, fun a o u h => h, n.nod⟩
def fresh : HO → Prop
  | .lst _ => True
  | .tup _ => True
  | .dK _ => True
  | _ => False
theorem fresh_flat {o : HO} (h : fresh o) : flat o := by
  cases o with
  | dT kvs => exact (show False from h).elim
  | frz ob u => exact (show False from h).elim
  | lst xs => trivial
  | tup xs => trivial
  | dK kvs => trivial
  | set S n => trivial
  | own z => trivial
  | xd fs => trivial
  | met f z => trivial
  | rng lo hi => trivial
  | tbl ps => trivial
  | ext p => trivial
  | ins C dx fs => trivial
/-- what is kept: all of H but at S, and the new or changed ones L -/
theorem fg_gen {H H' H'' : Hp} [n : Nod H] (S : Addr → Prop) (k : ∀ a o, H a = some o → ¬ S a → H' a = some o ∧ H'' a = some o) (s : ∀ a, S a → ∃ o, fresh o ∧ H' a = some o ∧ H'' a = some o ∧ ∀ u, H a = some u → fresh u) (c : ∀ a, H a = none → ¬ S a → H'' a = none) : Fg H H' H'' where
  sub := fun a o e => by
    by_cases h : S a
    · obtain ⟨u, _, h1, h2, _⟩ := s a h
      rw [h2] at e; rw [h1]; exact e
    · cases q : H a with
      | none => rw [c a q h] at e; cases e
      | some u =>
        obtain ⟨h1, h2⟩ := k a u q h
        rw [h2] at e; rw [h1]; exact e
  old := fun a o e => by
    by_cases h : S a
    · obtain ⟨u, _, h1, h2, _⟩ := s a h
      rw [h1, h2]
    · obtain ⟨h1, h2⟩ := k a o e h
      rw [h1, h2]
  own := fun a x e => by
    by_cases h : S a
    · obtain ⟨u, _, h1, h2, h3⟩ := s a h
      exact (h3 _ e).elim
    · exact (k a _ e h).1
  ins := fun a C dx fs e => by
    by_cases h : S a
    · obtain ⟨u, f, h1, h2, h3⟩ := s a h
      rw [h2] at e; cases e; exact f.elim
    · cases q : H a with
      | none => rw [c a q h] at e; cases e
      | some u =>
        obtain ⟨h1, h2⟩ := k a u q h
        rw [h2] at e; cases e; exact ⟨_, rfl⟩
  frz := fun a o w e => by
    by_cases h : S a
    · obtain ⟨u, f, h1, h2, h3⟩ := s a h
      rw [h2] at e; cases e; exact f.elim
    · cases q : H a with
      | none => rw [c a q h] at e; cases e
      | some u =>
        obtain ⟨h1, h2⟩ := k a u q h
        rw [h2] at e; cases e; rfl
  nod := fun a o e => by
    by_cases h : S a
    · obtain ⟨u, f, h1, h2, h3⟩ := s a h
      rw [h2] at e; cases e; exact fresh_flat f
    · cases q : H a with
      | none => rw [c a q h] at e; cases e
      | some u =>
        obtain ⟨h1, h2⟩ := k a u q h
        rw [h2] at e; cases e; exact n.nod a _ q
/-- one new or changed thing -/
theorem fg_one {H H' : Hp} {p : Addr} {o : HO} [n : Nod H] (f : fresh o) (hp : ∀ u, H p = some u → fresh u) (e : ∀ a u, a ≠ p → H a = some u → H' a = some u) (h : H' p = some o) : Fg H H' (upd H p o) :=
  fg_gen (fun a => a = p) (fun a u q ne => ⟨e a u ne q, by rw [upd_ne ne]; exact q⟩) (fun a q => by subst q; exact ⟨o, f, h, upd_same, hp⟩) (fun a q ne => by rw [upd_ne ne]; exact q)
theorem fg_new {H H' : Hp} {p : Addr} {o : HO} [n : Nod H] (f : fresh o) (hp : H p = none) (e : Ex H H') (h : H' p = some o) : Fg H H' (upd H p o) :=
  fg_one f (fun u q => by rw [hp] at q; cases q) (fun a u _ q => e a u q) h
theorem fg_mut {H H' : Hp} {p : Addr} {xs : List V} {o : HO} [n : Nod H] (f : fresh o) (hp : H p = some (.lst xs)) (e : ∀ a u, a ≠ p → H a = some u → H' a = some u) (h : H' p = some o) : Fg H H' (upd H p o) :=
  fg_one f (fun u q => by rw [hp] at q; cases q; trivial) e h
theorem fg_mut_new {H H' : Hp} {l p : Addr} {xs : List V} {o u : HO} [n : Nod H] (f : fresh o) (g : fresh u) (hl : H l = some (.lst xs)) (hp : H p = none) (e : ∀ a u, a ≠ l → H a = some u → H' a = some u) (h : H' l = some o) (h2 : H' p = some u) : Fg H H' (upd (upd H l o) p u) := by
  have ne : l ≠ p := ne_of_none hl hp
  refine fg_gen (fun a => a = l ∨ a = p) (fun a w q z => ?_) (fun a z => ?_) (fun a q z => ?_)
  · have z1 : a ≠ l := fun y => z (.inl y)
    have z2 : a ≠ p := fun y => z (.inr y)
    exact ⟨e a w z1 q, by rw [upd_ne z2, upd_ne z1]; exact q⟩
  · rcases z with rfl | rfl
    · exact ⟨o, f, h, by rw [upd_ne ne, upd_same], fun w q => by rw [hl] at q; cases q; trivial⟩
    · exact ⟨u, g, h2, upd_same, fun w q => by rw [hp] at q; cases q⟩
  · have z1 : a ≠ l := fun y => z (.inl y)
    have z2 : a ≠ p := fun y => z (.inr y)
    rw [upd_ne z2, upd_ne z1]; exact q

section
variable {X : Cx} {e : Expr} {es : List Expr} {st : Stmt} {sts : List Stmt}
def tFg (t : TE) : TE := fun σ H Q => t σ H fun v H' => ∃ H'', Fg H H' H'' ∧ Q v H''
def bFg (t : TT) : TT := fun σ H Q => t σ H fun v H' => ∃ H'', Fg H H' H'' ∧ Q v H''
def sFg (t : TS) : TS := fun D σ H => t { nx := fun σ' H' => ∃ H'', Fg H H' H'' ∧ D.nx σ' H'', rt := fun v H' => ∃ H'', Fg H H' H'' ∧ D.rt v H'', bk := fun σ' H' => ∃ H'', Fg H H' H'' ∧ D.bk σ' H'', ct := fun σ' H' => ∃ H'', Fg H H' H'' ∧ D.ct σ' H'' } σ H
theorem pe_fg {t : TE} (h : PE X e t) : PE X e (tFg t) := ⟨fun pins s σ H Q I q => by
  refine wpAny_mono (h.run pins s σ H _ I q) (fun u s' z => ?_) fun _ _ z => z
  obtain ⟨v, H', J, r, H'', f, qq⟩ := z
  exact ⟨v, H'', inv_fg I J f, r, qq⟩⟩
theorem pt_fg {t : TT} (h : PT X e t) : PT X e (bFg t) := ⟨fun pins s σ H Q I q => by
  refine wpAny_mono (h.run pins s σ H _ I q) (fun u s' z => ?_) fun _ _ z => z
  obtain ⟨H', J, H'', f, qq⟩ := z
  exact ⟨H'', inv_fg I J f, qq⟩⟩
theorem sp_fg {pins : List (Addr × Obj)} {σ : L2.St} {H : Hp} {s s' : Shared} {D : Ends} {f : Flow} (I : Inv X pins σ H s)
    (z : SP X pins { nx := fun σ' H' => ∃ H'', Fg H H' H'' ∧ D.nx σ' H'', rt := fun v H' => ∃ H'', Fg H H' H'' ∧ D.rt v H'', bk := fun σ' H' => ∃ H'', Fg H H' H'' ∧ D.bk σ' H'', ct := fun σ' H' => ∃ H'', Fg H H' H'' ∧ D.ct σ' H'' } f s') : SP X pins D f s' := by
  cases f with
  | next => obtain ⟨σ', H', J, H'', g, q⟩ := z; exact ⟨σ', H'', inv_fg I J g, q⟩
  | ret v => obtain ⟨x, σ', H', J, r, H'', g, q⟩ := z; exact ⟨x, σ', H'', inv_fg I J g, r, q⟩
  | brk => obtain ⟨σ', H', J, H'', g, q⟩ := z; exact ⟨σ', H'', inv_fg I J g, q⟩
  | cont => obtain ⟨σ', H', J, H'', g, q⟩ := z; exact ⟨σ', H'', inv_fg I J g, q⟩
theorem ps_fg {t : TS} (h : PS X st t) : PS X st (sFg t) := ⟨fun pins s σ H D I q => wpAny_mono (h.run pins s σ H _ I q) (fun _ _ z => sp_fg I z) fun _ _ z => z⟩
theorem pss_fg {t : TS} (h : PSs X sts t) : PSs X sts (sFg t) := ⟨fun pins s σ H D I q => wpAny_mono (h.run pins s σ H _ I q) (fun _ _ z => sp_fg I z) fun _ _ z => z⟩
end
end Px
set_option Elab.async false
set_option linter.all false
set_option maxRecDepth 100000
set_option maxHeartbeats 4000000
namespace Px
open PySem L2

/-! ### the operators by short names -/
abbrev oAdd : R2 := rI0 fun i j => .int (i + j)
abbrev oSub : R2 := rI0 fun i j => .int (i - j)
abbrev oMul : R2 := rI CMulW fun i j => .int (i * j)
abbrev oDiv : R2 := rI CDivW fun i j => .int (i / j)
abbrev oMod : R2 := rI (fun _ j => 0 < j) fun i j => .int (i % j)
abbrev oPow : R2 := rI CPow fun i j => .int (i ^ j.toNat)
abbrev oLt : R2 := rI0 fun i j => .bl (decide (i < j))
abbrev oLe : R2 := rI0 fun i j => .bl (decide (i ≤ j))
abbrev oGt : R2 := rI0 fun i j => .bl (decide (j < i))
abbrev oGe : R2 := rI0 fun i j => .bl (decide (j ≤ i))
abbrev oIsN : R2 := fun x y H Q => y = .non ∧ Q (.bl (decide (x = .non))) H
abbrev oNotN : R2 := fun x y H Q => y = .non ∧ Q (.bl (!decide (x = .non))) H
abbrev oCatS : R2 := fun x y H Q => ∃ i j, x = .str i ∧ y = .str j ∧ i.length + j.length ≤ sizeLine ∧ Q (.str (i ++ j)) H
abbrev uNeg : V → Hp → VK → Prop := rU fun i => .int (-i)
abbrev cLen (K : PySem.W.Frag) : List V → Hp → VK → Prop := fun xs H Q => ∃ p ys, xs = [.ref p] ∧ (SqL K H p ys ∨ SqT K H p ys) ∧ Q (.int ys.length) H
abbrev cLenS : List V → Hp → VK → Prop := fun xs H Q => ∃ z, xs = [.str z] ∧ z.length ≤ sizeLine ∧ Q (.int z.length) H
abbrev cInt : List V → Hp → VK → Prop := fun xs H Q => (∃ i, xs = [.int i] ∧ Q (.int i) H) ∨ ∃ k, xs = [.bl k] ∧ Q (.int (if k then 1 else 0)) H
abbrev cIntS : List V → Hp → VK → Prop := fun xs H Q => ∃ a n, xs = [.str a] ∧ PySem.intText? a = some n ∧ a.length ≤ 640 ∧ Q (.int n) H
abbrev cStr : List V → Hp → VK → Prop := fun xs H Q => ∃ i, xs = [.int i] ∧ i.natAbs.log2 < 1920 ∧ Q (.str (toString i)) H
abbrev cAbs : List V → Hp → VK → Prop := fun xs H Q => ∃ i, xs = [.int i] ∧ Q (.int (if i < 0 then -i else i)) H
abbrev cMax : List V → Hp → VK → Prop := fun xs H Q => ∃ i j, xs = [.int i, .int j] ∧ Q (.int (if j > i then j else i)) H
abbrev cMin : List V → Hp → VK → Prop := fun xs H Q => ∃ i j, xs = [.int i, .int j] ∧ Q (.int (if j < i then j else i)) H
abbrev cList (K : PySem.W.Frag) : List V → Hp → VK → Prop := fun xs H Q => ∃ p ys, xs = [.ref p] ∧ (SqL K H p ys ∨ SqT K H p ys) ∧ ∀ l, H l = none → Q (.ref l) (upd H l (.lst ys))
/-- x *= e, x //= e -/
def ipC (C : Int → Int → Prop) (f : Int → Int → Int) : TIp := fun x y H Q => ∃ i j, x = .int i ∧ y = .int j ∧ C i j ∧ Q (.int (f i j)) H
section
variable {X : Cx}
theorem ip_mul : PIp X .Mult (ipC CMulW fun i j => i * j) := by
  intro pins s σ H x y vx vy Q I rx ry h
  obtain ⟨i, j, rfl, rfl, c, q⟩ := h
  obtain ⟨t, rfl⟩ := rx
  obtain ⟨t', rfl⟩ := ry
  exact PyProof.Rows.imul_int ⟨.int _, H, I.tok _, ⟨_, rfl⟩, q⟩ c.ok
theorem ip_div : PIp X .FloorDiv (ipC CDivW fun i j => i / j) := by
  intro pins s σ H x y vx vy Q I rx ry h
  obtain ⟨i, j, rfl, rfl, c, q⟩ := h
  exact iop_fdivW pins s σ H _ _ vx vy Q I rx ry ⟨i, j, rfl, rfl, c, q⟩
end

/-! ### what evaluates to what, the heap as it was -/
def Ev (te : TE) (σ : L2.St) (H : Hp) (v : V) : Prop := ∀ Q : VK, Q v H → te σ H Q
def EvL (te : TE) (σ : L2.St) (H : Hp) (xs : List V) : Prop := ∀ Q : VK, (∀ p, H p = none → Q (.ref p) (upd H p (.lst xs))) → te σ H Q
def EvU (te : TE) (σ : L2.St) (H : Hp) (xs : List V) : Prop := ∀ Q : VK, (∀ p, H p = none → Q (.ref p) (upd H p (.tup xs))) → te σ H Q
def EvT (tt : TT) (σ : L2.St) (H : Hp) (b : Bool) : Prop := ∀ Q : Bool → Hp → Prop, Q b H → tt σ H Q
def EvA (ta : TA) (σ : L2.St) (H : Hp) (vs : List V) : Prop := ∀ Q : List V → Hp → Prop, Q vs H → ta σ H Q
def EvO (to : TO) (σ : L2.St) (H : Hp) (o : Option Int) : Prop := ∀ Q : Option Int → Hp → Prop, Q o H → to σ H Q
def RV (r : R2) (x y : V) (H : Hp) (z : V) : Prop := ∀ Q : VK, Q z H → r x y H Q
def RC (r : List V → Hp → VK → Prop) (vs : List V) (H : Hp) (z : V) : Prop := ∀ Q : VK, Q z H → r vs H Q
section
variable {K : PySem.W.Frag} {σ : L2.St} {H : Hp} {ta tb tc te : TE} {t u : TT} {x y z v : V} {r : R2} {i j : Int}
theorem ev_v (n : Nat) (h : σ[n]? = some (some v) := by rfl) : Ev (tVar n) σ H v := fun _ q => ⟨v, h, q⟩
theorem w_v (n : Nat) {Q : VK} (q : Q v H) (h : σ[n]? = some (some v) := by rfl) : tVar n σ H Q := ⟨v, h, q⟩
theorem ev_c : Ev (tC v) σ H v := fun _ q => q
theorem ev_op (ha : Ev ta σ H x) (hb : Ev tb σ H y) (hr : RV r x y H z) : Ev (tOp r ta tb) σ H z := fun Q q => ha _ (hb _ (hr Q q))
theorem ev_eq (h : Ev te σ H x) (e : x = y) : Ev te σ H y := e ▸ h
theorem rv_0 {g : Int → Int → V} : RV (rI0 g) (.int i) (.int j) H (g i j) := fun _ q => ⟨i, j, rfl, rfl, q⟩
theorem rv_1 {C : Int → Int → Prop} {g : Int → Int → V} (c : C i j) : RV (rI C g) (.int i) (.int j) H (g i j) := fun _ q => ⟨i, j, rfl, rfl, c, q⟩
theorem ev_add (ha : Ev ta σ H (.int i)) (hb : Ev tb σ H (.int j)) : Ev (tOp oAdd ta tb) σ H (.int (i + j)) := ev_op ha hb rv_0
theorem ev_sub (ha : Ev ta σ H (.int i)) (hb : Ev tb σ H (.int j)) : Ev (tOp oSub ta tb) σ H (.int (i - j)) := ev_op ha hb rv_0
theorem ev_mul (ha : Ev ta σ H (.int i)) (hb : Ev tb σ H (.int j)) (c : CMulW i j) : Ev (tOp oMul ta tb) σ H (.int (i * j)) := ev_op ha hb (rv_1 c)
theorem ev_div (ha : Ev ta σ H (.int i)) (hb : Ev tb σ H (.int j)) (c : CDivW i j) : Ev (tOp oDiv ta tb) σ H (.int (i / j)) := ev_op ha hb (rv_1 c)
theorem ev_mod (ha : Ev ta σ H (.int i)) (hb : Ev tb σ H (.int j)) (c : 0 < j) : Ev (tOp oMod ta tb) σ H (.int (i % j)) := ev_op ha hb (rv_1 c)
theorem ev_pow (ha : Ev ta σ H (.int i)) (hb : Ev tb σ H (.int j)) (c : CPow i j) : Ev (tOp oPow ta tb) σ H (.int (i ^ j.toNat)) := ev_op ha hb (rv_1 c)
theorem ev_lt (ha : Ev ta σ H (.int i)) (hb : Ev tb σ H (.int j)) : Ev (tOp oLt ta tb) σ H (.bl (decide (i < j))) := ev_op ha hb rv_0
theorem ev_le (ha : Ev ta σ H (.int i)) (hb : Ev tb σ H (.int j)) : Ev (tOp oLe ta tb) σ H (.bl (decide (i ≤ j))) := ev_op ha hb rv_0
theorem ev_gt (ha : Ev ta σ H (.int i)) (hb : Ev tb σ H (.int j)) : Ev (tOp oGt ta tb) σ H (.bl (decide (j < i))) := ev_op ha hb rv_0
theorem ev_ge (ha : Ev ta σ H (.int i)) (hb : Ev tb σ H (.int j)) : Ev (tOp oGe ta tb) σ H (.bl (decide (j ≤ i))) := ev_op ha hb rv_0
theorem ev_eqs (ha : Ev ta σ H x) (hb : Ev tb σ H y) (s : scal x y = true) : Ev (tOp rEq ta tb) σ H (.bl (decide (x = y))) := ev_op ha hb fun _ q => ⟨s, q⟩
theorem ev_nes (ha : Ev ta σ H x) (hb : Ev tb σ H y) (s : scal x y = true) : Ev (tOp rNe ta tb) σ H (.bl (!decide (x = y))) := ev_op ha hb fun _ q => ⟨s, q⟩
theorem dec_int : decide (V.int i = V.int j) = decide (i = j) := by
  by_cases h : i = j
  · subst h; simp
  · rw [decide_eq_false h, decide_eq_false (fun e => h (V.int.inj e))]
theorem ev_eqi (ha : Ev ta σ H (.int i)) (hb : Ev tb σ H (.int j)) : Ev (tOp rEq ta tb) σ H (.bl (decide (i = j))) := fun Q q => ev_eqs ha hb rfl Q (by rw [dec_int]; exact q)
theorem ev_nei (ha : Ev ta σ H (.int i)) (hb : Ev tb σ H (.int j)) : Ev (tOp rNe ta tb) σ H (.bl (!decide (i = j))) := fun Q q => ev_nes ha hb rfl Q (by rw [dec_int]; exact q)
theorem ev_isN (ha : Ev ta σ H x) : Ev (tOp oIsN ta (tC .non)) σ H (.bl (decide (x = .non))) := ev_op ha ev_c fun _ q => ⟨rfl, q⟩
theorem ev_notN (ha : Ev ta σ H x) : Ev (tOp oNotN ta (tC .non)) σ H (.bl (!decide (x = .non))) := ev_op ha ev_c fun _ q => ⟨rfl, q⟩
theorem ev_isB {a b : Bool} (ha : Ev ta σ H (.bl a)) (hb : Ev tb σ H (.bl b)) : Ev (tOp rIsB ta tb) σ H (.bl (decide (a = b))) := ev_op ha hb fun _ q => ⟨a, b, rfl, rfl, q⟩
theorem ev_notB {a b : Bool} (ha : Ev ta σ H (.bl a)) (hb : Ev tb σ H (.bl b)) : Ev (tOp rNotB ta tb) σ H (.bl (!decide (a = b))) := ev_op ha hb fun _ q => ⟨a, b, rfl, rfl, q⟩
theorem ev_neg (ha : Ev ta σ H (.int i)) : Ev (tUn uNeg ta) σ H (.int (-i)) := fun _ q => ha _ ⟨i, rfl, q⟩
theorem ev_chain {a b : Bool} {r r' : R2} (ha : Ev ta σ H x) (hb : Ev tb σ H y) (hr : RV r x y H (.bl a)) (hc : a = true → Ev tc σ H z) (hr' : a = true → RV r' y z H (.bl b)) : Ev (tChain r r' ta tb tc) σ H (.bl (a && b)) := fun Q q =>
  ha _ (hb _ (hr _ ⟨a, rfl, by
    cases a with
    | true => exact iteT (hc rfl _ (hr' rfl Q q))
    | false => exact iteF q⟩))
theorem ev_ixL {p : Addr} {xs : List V} (ha : Ev ta σ H (.ref p)) (hb : Ev tb σ H (.int i)) (h : SqL K H p xs) (e : atI xs i = some v) : Ev (tOp (rIxL K) ta tb) σ H v := ev_op ha hb fun _ q => ⟨p, xs, i, v, rfl, rfl, h, e, q⟩
theorem ev_ixT {p : Addr} {xs : List V} (ha : Ev ta σ H (.ref p)) (hb : Ev tb σ H (.int i)) (h : SqT K H p xs) (e : atI xs i = some v) : Ev (tOp (rIxT K) ta tb) σ H v := ev_op ha hb fun _ q => ⟨p, xs, i, v, rfl, rfl, h, e, q⟩
theorem ev_cb {r : List V → Hp → VK → Prop} {ta : TA} {vs : List V} (h : EvA ta σ H vs) (hr : RC r vs H z) : Ev (tCB r ta) σ H z := fun Q q => h _ (hr Q q)
theorem ea_nil : EvA tNil σ H [] := fun _ q => q
theorem ea_cons {tr : TA} {vs : List V} (h : Ev ta σ H x) (hr : EvA tr σ H vs) : EvA (tCons ta tr) σ H (x :: vs) := fun _ q => h _ (hr _ q)
theorem ea_1 (h : Ev ta σ H x) : EvA (tCons ta tNil) σ H [x] := ea_cons h ea_nil
theorem ea_2 (h : Ev ta σ H x) (g : Ev tb σ H y) : EvA (tCons ta (tCons tb tNil)) σ H [x, y] := ea_cons h (ea_1 g)
theorem ea_3 (h : Ev ta σ H x) (g : Ev tb σ H y) (f : Ev tc σ H z) : EvA (tCons ta (tCons tb (tCons tc tNil))) σ H [x, y, z] := ea_cons h (ea_2 g f)
theorem ev_len {p : Addr} {xs : List V} (ha : Ev ta σ H (.ref p)) (h : SqL K H p xs) : Ev (tCB (cLen K) (tCons ta tNil)) σ H (.int (xs.length : Int)) := ev_cb (ea_1 ha) fun _ q => ⟨p, xs, rfl, .inl h, q⟩
theorem ev_lenT {p : Addr} {xs : List V} (ha : Ev ta σ H (.ref p)) (h : SqT K H p xs) : Ev (tCB (cLen K) (tCons ta tNil)) σ H (.int (xs.length : Int)) := ev_cb (ea_1 ha) fun _ q => ⟨p, xs, rfl, .inr h, q⟩
theorem ev_lenS {s : Str} (ha : Ev ta σ H (.str s)) (h : s.length ≤ sizeLine) : Ev (tCB cLenS (tCons ta tNil)) σ H (.int (s.length : Int)) := ev_cb (ea_1 ha) fun _ q => ⟨s, rfl, h, q⟩
theorem ev_intB {b : Bool} (ha : Ev ta σ H (.bl b)) : Ev (tCB cInt (tCons ta tNil)) σ H (.int (if b then 1 else 0)) := ev_cb (ea_1 ha) fun _ q => .inr ⟨b, rfl, q⟩
theorem ev_intI (ha : Ev ta σ H (.int i)) : Ev (tCB cInt (tCons ta tNil)) σ H (.int i) := ev_cb (ea_1 ha) fun _ q => .inl ⟨i, rfl, q⟩
theorem ev_abs (ha : Ev ta σ H (.int i)) : Ev (tCB cAbs (tCons ta tNil)) σ H (.int (if i < 0 then -i else i)) := ev_cb (ea_1 ha) fun _ q => ⟨i, rfl, q⟩
theorem ev_max (ha : Ev ta σ H (.int i)) (hb : Ev tb σ H (.int j)) : Ev (tCB cMax (tCons ta (tCons tb tNil))) σ H (.int (if j > i then j else i)) := ev_cb (ea_2 ha hb) fun _ q => ⟨i, j, rfl, q⟩
theorem ev_min (ha : Ev ta σ H (.int i)) (hb : Ev tb σ H (.int j)) : Ev (tCB cMin (tCons ta (tCons tb tNil))) σ H (.int (if j < i then j else i)) := ev_cb (ea_2 ha hb) fun _ q => ⟨i, j, rfl, q⟩
theorem ev_sum {p : Addr} {ns : List Int} (ha : Ev ta σ H (.ref p)) (h : SqL K H p (ns.map V.int)) : Ev (tCB (rSum K) (tCons ta tNil)) σ H (.int ns.sum) := ev_cb (ea_1 ha) fun _ q => ⟨p, ns, rfl, h, q⟩
theorem ev_isi {t0 u0 : Value} {b : Bool} {c : V} (ha : Ev ta σ H x) (hb : Ev tb σ H c) (k : ClsV c u0) (ty : TyX K H x t0) (e : PySem.W.kitOne K t0 u0 = some b) : Ev (tCB (rIsi K) (tCons ta (tCons tb tNil))) σ H (.bl b) := ev_cb (ea_2 ha hb) fun _ q => ⟨x, c, t0, u0, b, rfl, k, ty, e, q⟩
theorem ev_if {b : Bool} (h : EvT t σ H b) (h1 : b = true → Ev ta σ H v) (h2 : b = false → Ev tb σ H v) : Ev (tIf t ta tb) σ H v := fun Q q => h _ (by
  cases b with
  | true => exact iteT (h1 rfl Q q)
  | false => exact iteF (h2 rfl Q q))
theorem ev_ite {b : Bool} {v w : V} (h : EvT t σ H b) (h1 : Ev ta σ H v) (h2 : Ev tb σ H w) : Ev (tIf t ta tb) σ H (if b then v else w) := fun Q q => h _ (by
  cases b with
  | true => exact iteT (h1 Q q)
  | false => exact iteF (h2 Q q))
theorem ev_and {a b : Bool} (h1 : Ev ta σ H (.bl a)) (h2 : a = true → Ev tb σ H (.bl b)) : Ev (tAndV ta tb) σ H (.bl (a && b)) := fun Q q => h1 _ ⟨a, rfl, by
  cases a with
  | true => exact iteT (h2 rfl Q q)
  | false => exact iteF q⟩
theorem ev_or {a b : Bool} (h1 : Ev ta σ H (.bl a)) (h2 : a = false → Ev tb σ H (.bl b)) : Ev (tOrV ta tb) σ H (.bl (a || b)) := fun Q q => h1 _ ⟨a, rfl, by
  cases a with
  | true => exact iteT q
  | false => exact iteF (h2 rfl Q q)⟩
theorem ev_not {a : Bool} (h1 : Ev ta σ H (.bl a)) : Ev (tNotV ta) σ H (.bl (!a)) := fun _ q => h1 _ ⟨a, rfl, q⟩
theorem et_t {b : Bool} (h : Ev te σ H (.bl b)) : EvT (tTest te) σ H b := fun _ q => h _ ⟨b, rfl, q⟩
theorem et_b {b : Bool} (h : Ev te σ H (.bl b)) : EvT (tB te) σ H b := fun _ q => h _ ⟨b, rfl, q⟩
theorem et_and {a b : Bool} (h1 : EvT t σ H a) (h2 : a = true → EvT u σ H b) : EvT (tAnd t u) σ H (a && b) := fun Q q => h1 _ (by
  cases a with
  | true => exact iteT (h2 rfl Q q)
  | false => exact iteF q)
theorem et_or {a b : Bool} (h1 : EvT t σ H a) (h2 : a = false → EvT u σ H b) : EvT (tOr t u) σ H (a || b) := fun Q q => h1 _ (by
  cases a with
  | true => exact iteT q
  | false => exact iteF (h2 rfl Q q))
theorem et_not {a : Bool} (h1 : EvT t σ H a) : EvT (tNot t) σ H (!a) := fun _ q => h1 _ q
theorem et_eq {a b : Bool} (h : EvT t σ H a) (e : a = b) : EvT t σ H b := e ▸ h
theorem et_yes : EvT tYes σ H true := fun _ q => q
theorem eo_no : EvO tNoPart σ H none := fun _ q => q
theorem eo_is (h : Ev te σ H (.int i)) : EvO (tPart te) σ H (some i) := fun _ q => h _ ⟨i, rfl, q⟩
theorem el_nil : EvL (tLst tNil) σ H [] := fun _ q => ⟨Nat.zero_le _, q⟩
theorem el_lst {ta : TA} {vs : List V} (h : EvA ta σ H vs) (hl : vs.length ≤ 1000) : EvL (tLst ta) σ H vs := fun _ q => h _ ⟨Nat.le_trans hl (by decide), q⟩
theorem eu_tup {ta : TA} {vs : List V} (h : EvA ta σ H vs) (hl : vs.length ≤ 1000) : EvU (tTup ta) σ H vs := fun _ q => h _ ⟨Nat.le_trans hl (by decide), q⟩
theorem el_sl {tl th : TO} {a : Addr} {xs : List V} {lo hi : Option Int} (h : Ev te σ H (.ref a)) (h1 : EvO tl σ H lo) (h2 : EvO th σ H hi) (hs : SqL K H a xs) : EvL (tSl (rSlL K) te tl th) σ H (cutV xs lo hi) := fun _ q => h _ (h1 _ (h2 _ ⟨a, xs, rfl, hs, q⟩))
theorem el_list {a : Addr} {xs : List V} (h : Ev te σ H (.ref a)) (hs : SqL K H a xs) : EvL (tCB (cList K) (tCons te tNil)) σ H xs := fun _ q => h _ ⟨a, xs, rfl, .inl hs, q⟩
theorem el_rev {a : Addr} {xs : List V} (h : Ev te σ H (.ref a)) (hs : SqL K H a xs) : EvL (tRevL K te) σ H xs.reverse := fun _ q => h _ ⟨a, xs, rfl, hs, q⟩
theorem el_cat {a b : Addr} {xs ys : List V} (h : Ev ta σ H (.ref a)) (g : Ev tb σ H (.ref b)) (ha : H a = some (.lst xs)) (hb : H b = some (.lst ys)) (hl : xs.length + ys.length ≤ sizeLine) : EvL (tOp rCat ta tb) σ H (xs ++ ys) := fun _ q => h _ (g _ ⟨a, b, xs, ys, rfl, rfl, ha, hb, hl, q⟩)

/-! ### forgetting -/
theorem ev_fg [Nod H] (h : ∀ Q : VK, (∀ H', Ex H H' → Q v H') → te σ H Q) : Ev (tFg te) σ H v := fun Q q => h _ fun H' e => ⟨H, fg_same e, q⟩
theorem el_fg [Nod H] {xs : List V} (h : ∀ Q : VK, (∀ p H', H p = none → Ex H H' → H' p = some (.lst xs) → Q (.ref p) H') → te σ H Q) : EvL (tFg te) σ H xs := fun Q q => h _ fun p H' hp e hx => ⟨upd H p (.lst xs), fg_new trivial hp e hx, q p hp⟩
theorem et_fg [Nod H] {b : Bool} (h : ∀ Q : Bool → Hp → Prop, (∀ H', Ex H H' → Q b H') → t σ H Q) : EvT (bFg t) σ H b := fun Q q => h _ fun H' e => ⟨H, fg_same e, q⟩
/-- what is already exact stays so -/
theorem ev_fg0 [Nod H] (h : Ev te σ H v) : Ev (tFg te) σ H v := ev_fg fun Q q => h Q (q H ex_refl)
/-- an item of a list made on the way -/
theorem ev_pick [Nod H] {xs : List V} (h : EvL ta σ H xs) (hb : ∀ p, H p = none → Ev tb σ (upd H p (.lst xs)) (.int i)) (e : atI xs i = some v) : Ev (tFg (tOp (rIxL K) ta tb)) σ H v :=
  ev_fg fun Q q => h _ fun p hp => hb p hp _ ⟨p, xs, i, v, rfl, rfl, sq_up, e, q _ (ex_new hp)⟩
end
end Px
set_option Elab.async false
set_option linter.all false
set_option maxRecDepth 100000
set_option maxHeartbeats 4000000
namespace Px
open PySem L2
section
variable {K : PySem.W.Frag} {σ : L2.St} {H : Hp} {ta tb tc te tl : TE} {t u : TT} {x y z v : V} {D : Ends} {s1 s2 s3 tu : TS} {n m : Nat} {i j : Int}
/-! ### statements -/
theorem s_set (h : Ev te σ H v) (k : D.nx (σ.set n (some v)) H) : tAsg te (gName n) D σ H := h _ k
theorem s_setL {xs : List V} (h : EvL te σ H xs) (k : ∀ p, H p = none → D.nx (σ.set n (some (.ref p))) (upd H p (.lst xs))) : tAsg te (gName n) D σ H := h _ k
theorem q_set (h : Ev te σ H v) (k : s2 D (σ.set n (some v)) H) : tSeq (tAsg te (gName n)) s2 D σ H := h _ k
theorem q_setL {xs : List V} (h : EvL te σ H xs) (k : ∀ p, H p = none → s2 D (σ.set n (some (.ref p))) (upd H p (.lst xs))) : tSeq (tAsg te (gName n)) s2 D σ H := h _ k
theorem q_setW (h : te σ H fun w H1 => s2 D (σ.set n (some w)) H1) : tSeq (tAsg te (gName n)) s2 D σ H := h
theorem s_setW (h : te σ H fun w H1 => D.nx (σ.set n (some w)) H1) : tAsg te (gName n) D σ H := h
theorem s_ret (h : Ev te σ H v) (k : D.rt v H) : tRet te D σ H := h _ k
theorem s_retL {xs : List V} (h : EvL te σ H xs) (k : ∀ p, H p = none → D.rt (.ref p) (upd H p (.lst xs))) : tRet te D σ H := h _ k
theorem s_if {b : Bool} (h : EvT t σ H b) (h1 : b = true → s1 D σ H) (h2 : b = false → s2 D σ H) : tIfS t s1 s2 D σ H := h _ (by
  cases b with
  | true => exact iteT (h1 rfl)
  | false => exact iteF (h2 rfl))
theorem q_if {b : Bool} (h : EvT t σ H b) (h1 : b = true → s1 { D with nx := s3 D } σ H) (h2 : b = false → s2 { D with nx := s3 D } σ H) : tSeq (tIfS t s1 s2) s3 D σ H := s_if (D := { D with nx := s3 D }) h h1 h2
theorem q_when {b : Bool} (h : EvT t σ H b) (h1 : b = true → s1 { D with nx := s3 D } σ H) (h2 : b = false → s3 D σ H) : tSeq (tIfS t s1 tNext) s3 D σ H := s_if (D := { D with nx := s3 D }) h h1 h2
theorem s_when {b : Bool} (h : EvT t σ H b) (h1 : b = true → s1 D σ H) (h2 : b = false → D.nx σ H) : tIfS t s1 tNext D σ H := s_if h h1 h2
theorem s_drop (h : Ev te σ H v) (k : D.nx σ H) : tDrop te D σ H := h _ k
theorem q_seq (h : s1 { D with nx := s2 D } σ H) : tSeq s1 s2 D σ H := h
theorem s_app {l : Addr} {xs : List V} (hl : H l = some (.lst xs)) (hz : xs.length < sizeLine) (ha : Ev ta σ H (.ref l)) (h : Ev te σ H v) (k : D.nx σ (upd H l (.lst (xs ++ [v])))) : tDrop (tBM K "list" rAppend ta (tCons te tNil)) D σ H :=
  ha _ ⟨.inl ⟨rfl, xs, sq_at hl⟩, h _ ⟨l, xs, v, rfl, rfl, hl, hz, k⟩⟩
theorem q_app {l : Addr} {xs : List V} (hl : H l = some (.lst xs)) (hz : xs.length < sizeLine) (ha : Ev ta σ H (.ref l)) (h : Ev te σ H v) (k : s2 D σ (upd H l (.lst (xs ++ [v])))) : tSeq (tDrop (tBM K "list" rAppend ta (tCons te tNil))) s2 D σ H := s_app (D := { D with nx := s2 D }) hl hz ha h k
theorem s_ext {l b : Addr} {xs ys : List V} (hl : H l = some (.lst xs)) (hb : H b = some (.lst ys)) (hz : xs.length + ys.length ≤ sizeLine) (ha : Ev ta σ H (.ref l)) (h : Ev te σ H (.ref b)) (k : D.nx σ (upd H l (.lst (xs ++ ys)))) : tDrop (tBM K "list" rExtend ta (tCons te tNil)) D σ H :=
  ha _ ⟨.inl ⟨rfl, xs, sq_at hl⟩, h _ ⟨l, b, xs, ys, rfl, rfl, hl, hb, hz, k⟩⟩
theorem ixn {k j : Nat} (h : j < k) : ixN k (j : Int) = some j := by
  unfold ixN
  rw [if_pos (by omega), if_pos (by omega)]
  simp
theorem ixn0 {k : Nat} (h : 0 < k) : ixN k 0 = some 0 := ixn (j := 0) h
theorem ixn1 {k : Nat} (h : 1 < k) : ixN k 1 = some 1 := ixn (j := 1) h
theorem s_sub {l : Addr} {xs : List V} {jj : Int} {j : Nat} (hl : H l = some (.lst xs)) (e : ixN xs.length jj = some j) (h : Ev te σ H v) (ho : Ev ta σ H (.ref l)) (hi : Ev tb σ H (.int jj)) (k : D.nx σ (upd H l (.lst (xs.set j v)))) : tAsg te (gSub ta tb rSetL) D σ H :=
  h _ (ho _ (hi _ ⟨l, xs, jj, j, rfl, rfl, hl, e, k⟩))
theorem q_sub {l : Addr} {xs : List V} {jj : Int} {j : Nat} (hl : H l = some (.lst xs)) (e : ixN xs.length jj = some j) (h : Ev te σ H v) (ho : Ev ta σ H (.ref l)) (hi : Ev tb σ H (.int jj)) (k : s2 D σ (upd H l (.lst (xs.set j v)))) : tSeq (tAsg te (gSub ta tb rSetL)) s2 D σ H := s_sub (D := { D with nx := s2 D }) hl e h ho hi k
theorem s_aug {f : Int → Int → Int} {a b : Int} (h : Ev te σ H (.int b)) (k : D.nx (σ.set n (some (.int (f a b)))) H) (hx : σ[n]? = some (some (.int a)) := by rfl) : tAug n te (ipI f) D σ H := ⟨.int a, hx, h _ ⟨a, b, rfl, rfl, k⟩⟩
theorem q_aug {f : Int → Int → Int} {a b : Int} (h : Ev te σ H (.int b)) (k : s2 D (σ.set n (some (.int (f a b)))) H) (hx : σ[n]? = some (some (.int a)) := by rfl) : tSeq (tAug n te (ipI f)) s2 D σ H := s_aug (D := { D with nx := s2 D }) h k hx
theorem s_augC {C : Int → Int → Prop} {f : Int → Int → Int} {a b : Int} (h : Ev te σ H (.int b)) (k : D.nx (σ.set n (some (.int (f a b)))) H) (c : C a b) (hx : σ[n]? = some (some (.int a)) := by rfl) : tAug n te (ipC C f) D σ H := ⟨.int a, hx, h _ ⟨a, b, rfl, rfl, c, k⟩⟩
theorem q_augC {C : Int → Int → Prop} {f : Int → Int → Int} {a b : Int} (h : Ev te σ H (.int b)) (k : s2 D (σ.set n (some (.int (f a b)))) H) (c : C a b) (hx : σ[n]? = some (some (.int a)) := by rfl) : tSeq (tAug n te (ipC C f)) s2 D σ H := s_augC (D := { D with nx := s2 D }) h k c hx
/-! ### loops -/
theorem s_while (W : Nat → L2.St → Hp → Prop) (m0 : Nat) (h0 : W m0 σ H)
    (hs : ∀ m σ' H', W m σ' H' → ∃ b, EvT t σ' H' b ∧ (b = true → tu { D with nx := fun σ2 H2 => ∃ m', m' < m ∧ W m' σ2 H2, ct := fun σ2 H2 => ∃ m', m' < m ∧ W m' σ2 H2, bk := D.nx } σ' H') ∧ (b = false → D.nx σ' H')) : tWhile t tu D σ H :=
  ⟨W, ⟨m0, h0⟩, fun m σ' H' hw => by
    obtain ⟨b, hb, h1, h2⟩ := hs m σ' H' hw
    refine hb _ ?_
    cases b with
    | true => exact iteT ⟨_, fun σ2 H2 q => q, h1 rfl⟩
    | false => exact iteF (h2 rfl)⟩
theorem q_while (W : Nat → L2.St → Hp → Prop) (m0 : Nat) (h0 : W m0 σ H)
    (hs : ∀ m σ' H', W m σ' H' → ∃ b, EvT t σ' H' b ∧ (b = true → tu { D with nx := fun σ2 H2 => ∃ m', m' < m ∧ W m' σ2 H2, ct := fun σ2 H2 => ∃ m', m' < m ∧ W m' σ2 H2, bk := s2 D } σ' H') ∧ (b = false → s2 D σ' H')) : tSeq (tWhile t tu) s2 D σ H :=
  s_while (D := { D with nx := s2 D }) W m0 h0 hs
theorem s_forR1 {ta : TA} {k : Int} (h : EvA ta σ H [.int k]) (hk : -(2 ^ 62) ≤ k ∧ k < 2 ^ 62) (Pv : Nat → L2.St → Hp → Prop) (h0 : Pv 0 σ H)
    (hs : ∀ (i : Nat) σ' H', (i : Int) < k → Pv i σ' H' → tu { D with nx := Pv (i + 1), ct := Pv (i + 1), bk := D.nx } (σ'.set n (some (.int (i : Int)))) H') (hd : ∀ σ' H', Pv k.toNat σ' H' → D.nx σ' H') : tFor (iRng1 ta) (gName n) tu D σ H :=
  h _ ⟨k, rfl, hk.1, hk.2, for_range (lo := 0) (n := k.toNat) Pv h0 (fun i σ' H' hi p => by
    show tu { D with nx := Pv (i + 1), ct := Pv (i + 1), bk := D.nx } (σ'.set n (some (.int ((0 : Int) + (i : Int))))) H'
    rw [Int.zero_add]
    exact hs i σ' H' (by omega) p) hd⟩
theorem q_forR1 {ta : TA} {k : Int} (h : EvA ta σ H [.int k]) (hk : -(2 ^ 62) ≤ k ∧ k < 2 ^ 62) (Pv : Nat → L2.St → Hp → Prop) (h0 : Pv 0 σ H)
    (hs : ∀ (i : Nat) σ' H', (i : Int) < k → Pv i σ' H' → tu { D with nx := Pv (i + 1), ct := Pv (i + 1), bk := s2 D } (σ'.set n (some (.int (i : Int)))) H') (hd : ∀ σ' H', Pv k.toNat σ' H' → s2 D σ' H') : tSeq (tFor (iRng1 ta) (gName n) tu) s2 D σ H :=
  s_forR1 (D := { D with nx := s2 D }) h hk Pv h0 hs hd
theorem s_forR2 {ta : TA} {lo k : Int} (h : EvA ta σ H [.int lo, .int k]) (hk : -(2 ^ 62) ≤ lo ∧ lo < 2 ^ 62 ∧ -(2 ^ 62) ≤ k ∧ k < 2 ^ 62) (Pv : Nat → L2.St → Hp → Prop) (h0 : Pv 0 σ H)
    (hs : ∀ (i : Nat) σ' H', lo + (i : Int) < k → Pv i σ' H' → tu { D with nx := Pv (i + 1), ct := Pv (i + 1), bk := D.nx } (σ'.set n (some (.int (lo + (i : Int))))) H') (hd : ∀ σ' H', Pv (k - lo).toNat σ' H' → D.nx σ' H') : tFor (iRng2 ta) (gName n) tu D σ H :=
  h _ ⟨lo, k, rfl, hk, for_range (lo := lo) (n := (k - lo).toNat) Pv h0 (fun i σ' H' hi p => hs i σ' H' (by omega) p) hd⟩
theorem q_forR2 {ta : TA} {lo k : Int} (h : EvA ta σ H [.int lo, .int k]) (hk : -(2 ^ 62) ≤ lo ∧ lo < 2 ^ 62 ∧ -(2 ^ 62) ≤ k ∧ k < 2 ^ 62) (Pv : Nat → L2.St → Hp → Prop) (h0 : Pv 0 σ H)
    (hs : ∀ (i : Nat) σ' H', lo + (i : Int) < k → Pv i σ' H' → tu { D with nx := Pv (i + 1), ct := Pv (i + 1), bk := s2 D } (σ'.set n (some (.int (lo + (i : Int))))) H') (hd : ∀ σ' H', Pv (k - lo).toNat σ' H' → s2 D σ' H') : tSeq (tFor (iRng2 ta) (gName n) tu) s2 D σ H :=
  s_forR2 (D := { D with nx := s2 D }) h hk Pv h0 hs hd
/-- over a list of ints -/
theorem s_forI {a : Addr} {ns : List Int} (h : Ev tl σ H (.ref a)) (hx : SqL K H a (ns.map V.int)) (Pv : Nat → L2.St → Hp → Prop) (h0 : Pv 0 σ H) (hl : ∀ i σ' H', i ≤ ns.length → Pv i σ' H' → SqL K H' a (ns.map V.int))
    (hs : ∀ i x σ' H', ns[i]? = some x → Pv i σ' H' → tu { D with nx := Pv (i + 1), ct := Pv (i + 1), bk := D.nx } (σ'.set n (some (.int x))) H') (hd : ∀ σ' H', Pv ns.length σ' H' → D.nx σ' H') : tFor (iList K tl) (gName n) tu D σ H :=
  h _ ⟨a, rfl, ⟨_, hx⟩, for_list (xs := ns.map V.int) Pv h0 (fun i σ' H' hi p => hl i σ' H' (by simpa using hi) p) (fun i x σ' H' hi p => by
    rw [List.getElem?_map] at hi
    cases e : ns[i]? with
    | none => rw [e] at hi; cases hi
    | some y => rw [e] at hi; cases hi; exact hs i y σ' H' e p) (fun σ' H' p => hd σ' H' (by simpa using p))⟩
theorem q_forI {a : Addr} {ns : List Int} (h : Ev tl σ H (.ref a)) (hx : SqL K H a (ns.map V.int)) (Pv : Nat → L2.St → Hp → Prop) (h0 : Pv 0 σ H) (hl : ∀ i σ' H', i ≤ ns.length → Pv i σ' H' → SqL K H' a (ns.map V.int))
    (hs : ∀ i x σ' H', ns[i]? = some x → Pv i σ' H' → tu { D with nx := Pv (i + 1), ct := Pv (i + 1), bk := s2 D } (σ'.set n (some (.int x))) H') (hd : ∀ σ' H', Pv ns.length σ' H' → s2 D σ' H') : tSeq (tFor (iList K tl) (gName n) tu) s2 D σ H :=
  s_forI (D := { D with nx := s2 D }) h hx Pv h0 hl hs hd
/-- over a new list of ints -/
theorem s_forN {ns : List Int} (h : EvL tl σ H (ns.map V.int)) (Pv : Addr → Nat → L2.St → Hp → Prop) (h0 : ∀ p, H p = none → Pv p 0 σ (upd H p (.lst (ns.map V.int)))) (hl : ∀ p i σ' H', H p = none → i ≤ ns.length → Pv p i σ' H' → SqL K H' p (ns.map V.int))
    (hs : ∀ p i x σ' H', H p = none → ns[i]? = some x → Pv p i σ' H' → tu { D with nx := Pv p (i + 1), ct := Pv p (i + 1), bk := D.nx } (σ'.set n (some (.int x))) H') (hd : ∀ p σ' H', H p = none → Pv p ns.length σ' H' → D.nx σ' H') : tFor (iList K tl) (gName n) tu D σ H :=
  h _ fun p hp => ⟨p, rfl, ⟨_, sq_up⟩, for_list (xs := ns.map V.int) (Pv p) (h0 p hp) (fun i σ' H' hi q => hl p i σ' H' hp (by simpa using hi) q) (fun i x σ' H' hi q => by
    rw [List.getElem?_map] at hi
    cases e : ns[i]? with
    | none => rw [e] at hi; cases hi
    | some y => rw [e] at hi; cases hi; exact hs p i y σ' H' hp e q) (fun σ' H' q => hd p σ' H' hp (by simpa using q))⟩
theorem q_forN {ns : List Int} (h : EvL tl σ H (ns.map V.int)) (Pv : Addr → Nat → L2.St → Hp → Prop) (h0 : ∀ p, H p = none → Pv p 0 σ (upd H p (.lst (ns.map V.int)))) (hl : ∀ p i σ' H', H p = none → i ≤ ns.length → Pv p i σ' H' → SqL K H' p (ns.map V.int))
    (hs : ∀ p i x σ' H', H p = none → ns[i]? = some x → Pv p i σ' H' → tu { D with nx := Pv p (i + 1), ct := Pv p (i + 1), bk := s2 D } (σ'.set n (some (.int x))) H') (hd : ∀ p σ' H', H p = none → Pv p ns.length σ' H' → s2 D σ' H') : tSeq (tFor (iList K tl) (gName n) tu) s2 D σ H :=
  s_forN (D := { D with nx := s2 D }) h Pv h0 hl hs hd
/-! ### comprehensions -/
/-- over a list: D the new one; the heap in the turns -/
theorem el_lc {a : Addr} {xs : List V} {vs : List Nat} (p : V → Bool) (f : V → V) (h : Ev tl σ H (.ref a)) (hx : SqL K H a xs) (hz : xs.length ≤ sizeLine) (hw : ∀ x, wipe ((wipe σ vs).set n (some x)) vs = wipe σ vs)
    (ht : ∀ x ∈ xs, ∀ D acc, H D = none → EvT t ((wipe σ vs).set n (some x)) (upd H D (.lst acc)) (p x)) (he : ∀ x ∈ xs, p x = true → ∀ D acc, H D = none → Ev te ((wipe σ vs).set n (some x)) (upd H D (.lst acc)) (f x)) :
    EvL (tLc (iList K tl) (gName n) t te vs) σ H ((xs.filter p).map f) := fun Q q => h _ ⟨a, rfl, ⟨xs, hx⟩, fun D hD =>
  lc_list (xs := xs) (fun i H' => H' = upd H D (.lst (((xs.take i).filter p).map f))) (by simp) (fun i H' _ e => by subst e; exact sq_new hD hx) (fun i x H' hi e => by
    subst e
    have hm : x ∈ xs := List.mem_of_getElem? hi
    have hlt : i < xs.length := (List.getElem?_eq_some_iff.mp hi).1
    have et : xs.take (i + 1) = xs.take i ++ [x] := by rw [List.take_add_one, hi]; rfl
    refine ⟨hw x, ht x hm D _ hD _ ?_⟩
    cases hp : p x with
    | true =>
      refine iteT (he x hm hp D _ hD _ ⟨_, upd_same, ?_, ?_⟩)
      · rw [List.length_map]
        refine Nat.lt_of_le_of_lt (List.length_filter_le _ _) ?_
        rw [List.length_take]
        omega
      · rw [upd_upd, et, List.filter_append, List.map_append, List.filter_cons, if_pos hp]; rfl
    | false =>
      refine iteF ?_
      rw [et, List.filter_append, List.map_append, List.filter_cons, if_neg (by rw [hp]; decide)]
      simp) (fun H' e => by subst e; rw [List.take_length]; exact q D hD)⟩
/-- over a new list -/
theorem el_lcN [Nod H] {xs : List V} {vs : List Nat} (p : V → Bool) (f : V → V) (h : EvL tl σ H xs) (hz : xs.length ≤ sizeLine) (hw : ∀ x, wipe ((wipe σ vs).set n (some x)) vs = wipe σ vs)
    (ht : ∀ x ∈ xs, ∀ q D acc, H q = none → H D = none → q ≠ D → EvT t ((wipe σ vs).set n (some x)) (upd (upd H q (.lst xs)) D (.lst acc)) (p x)) (he : ∀ x ∈ xs, p x = true → ∀ q D acc, H q = none → H D = none → q ≠ D → Ev te ((wipe σ vs).set n (some x)) (upd (upd H q (.lst xs)) D (.lst acc)) (f x)) :
    EvL (tFg (tLc (iList K tl) (gName n) t te vs)) σ H ((xs.filter p).map f) := el_fg fun Q q => by
  refine h _ fun r hr => ?_
  refine el_lc (K := K) (H := upd H r (.lst xs)) (tl := fun _ H Q => Q (.ref r) H) p f (fun _ z => z) sq_up hz hw (fun x hx D acc hD => ?_) (fun x hx hp D acc hD => ?_) _ fun D hD => ?_
  · obtain ⟨h1, h2⟩ := none_upd hD
    exact ht x hx r D acc hr h1 (Ne.symm h2)
  · obtain ⟨h1, h2⟩ := none_upd hD
    exact he x hx hp r D acc hr h1 (Ne.symm h2)
  · obtain ⟨h1, h2⟩ := none_upd hD
    exact q D _ h1 (ex_upd h1 (ex_new hr)) upd_same
/-- over range(k), range(lo, k) -/
theorem el_lcR1 {ta : TA} {k : Int} {vs : List Nat} (p : Int → Bool) (f : Int → V) (h : EvA ta σ H [.int k]) (hk : -(2 ^ 62) ≤ k ∧ k ≤ 16777216) (hw : ∀ x, wipe ((wipe σ vs).set n (some x)) vs = wipe σ vs)
    (ht : ∀ i : Int, 0 ≤ i → i < k → ∀ D acc, H D = none → EvT t ((wipe σ vs).set n (some (.int i))) (upd H D (.lst acc)) (p i)) (he : ∀ i : Int, 0 ≤ i → i < k → p i = true → ∀ D acc, H D = none → Ev te ((wipe σ vs).set n (some (.int i))) (upd H D (.lst acc)) (f i)) :
    EvL (tLc (iRng1 ta) (gName n) t te vs) σ H ((((List.range k.toNat).map Int.ofNat).filter p).map f) := fun Q q => h _ ⟨k, rfl, hk.1, by omega, fun D hD =>
  lc_range (lo := 0) (n := k.toNat) (fun i H' => H' = upd H D (.lst ((((List.range i).map Int.ofNat).filter p).map f))) (by simp) (fun i H' hi e => by
    subst e
    show wipe ((wipe σ vs).set n (some (.int (0 + (i : Int))))) vs = wipe σ vs ∧ t ((wipe σ vs).set n (some (.int (0 + (i : Int))))) _ _
    rw [Int.zero_add]
    refine ⟨hw _, ht i (by omega) (by omega) D _ hD _ ?_⟩
    rw [List.range_succ, List.map_append, List.filter_append, List.map_append]
    have hlen : ((((List.range i).map Int.ofNat).filter p).map f).length < sizeLine := by
      rw [List.length_map]
      refine Nat.lt_of_le_of_lt (List.length_filter_le _ _) ?_
      rw [List.length_map, List.length_range]
      have : sizeLine = 16777216 := by decide
      omega
    cases hp : p (i : Int) with
    | true =>
      refine iteT (he i (by omega) (by omega) hp D _ hD _ ⟨_, upd_same, hlen, ?_⟩)
      rw [upd_upd]
      congr 2
      simp [hp]
    | false =>
      refine iteF ?_
      congr 2
      simp [hp]) (fun H' e => by subst e; exact q D hD)⟩
end
end Px
set_option Elab.async false
set_option linter.all false
set_option maxRecDepth 100000
set_option maxHeartbeats 4000000
namespace Px
open PySem L2
/-- text * int -/
abbrev oRepS : R2 := fun x y H Q => ∃ z n, x = .str z ∧ y = .int n ∧ MulOk z n ∧ Q (.str (Txt.mul z n)) H
theorem op_repS {X : Cx} : OpR X (binaryOp .Mult) oRepS := by
  intro pins s σ H x y v u Q I rx ry h
  obtain ⟨z, n, rfl, rfl, ok, q⟩ := h
  obtain ⟨t, rfl⟩ := rx
  obtain ⟨t', rfl⟩ := ry
  exact SB.mul ok fun t1 k => ⟨.str _, H, I.tok _, ⟨_, rfl⟩, q⟩
/-- a def of the text, by its name: it keeps its promise -/
structure Fn (P : Program) (w : World) (K : PySem.W.Frag) (mg : Str → Option Value) (base : Heap) (x : Str) (k : Nat) (ps : List Str) (sp : Sp) : Prop where
  ex : ∃ (f : Addr) (fd : FuncData), FnOk P w K mg base CX0 k f fd ps sp ∧ mg x = some (.ref f) ∧ PySem.W.keepIn K (.ref f) = true ∧ Binds K fd ps []
theorem pe_fn {X : Cx} {k : Nat} {ps : List Str} {sp : Sp} {x : Str} {p pos : Pos} {e : Expr} {es : List Expr} {t : TA} (F : Fn X.prog X.w X.K X.mg X.base x k ps sp) (hr : Room k X.A) (ha : PA X (e :: es) t) (hg : Gl X x := by rfl)
    (hdb : (x == ("__debug__" : Str)) = false := by decide) (he : starEach (e :: es) X.env = (false, eval e X.env) :: starEach es X.env := by rfl) (hpl : (backTo pos (starEach es X.env)).any (·.1) = false := by rfl) :
    PE X (.Call (.Name x p) (e :: es) [] pos) (tCall sp [] E0 t) := by
  obtain ⟨f, fd, F1, g, kp, b⟩ := F.ex
  exact pe_call F1 hr hg g kp b .nil pass0 ha hdb he hpl
abbrev FnP (K : PySem.W.Frag) (x : Str) (st : Stmt) (f : Addr) (fd : FuncData) : Prop := FunD K x x (defArgs st) (defBody st) (defScope st) [] [] f fd
end Px
set_option Elab.async false
set_option linter.all false
set_option maxRecDepth 100000
set_option maxHeartbeats 4000000
namespace Px
open PySem L2
theorem cm {i j : Int} (h : -(2 ^ 200) < i ∧ i < 2 ^ 200 ∧ -(2 ^ 200) < j ∧ j < 2 ^ 200) : CMulW i j := by
  refine wide_mul (a := 200) (b := 200) ?_ ?_ (by decide) (by decide) (by decide)
  · have : i.natAbs < 2 ^ 200 := by omega
    exact this
  · have : j.natAbs < 2 ^ 200 := by omega
    exact this
theorem cd {i j : Int} (h : 0 < j ∧ j < 2 ^ 200) : CDivW i j := by
  refine wide_div (b := 200) h.1 ?_ (by decide) (by decide)
  have : j.natAbs < 2 ^ 200 := by omega
  exact this
theorem cp {i j : Int} (h : 0 ≤ j ∧ j ≤ 1000 ∧ -(2 ^ 60) < i ∧ i < 2 ^ 60) : CPow i j := by
  refine ⟨h.1, ?_, ?_⟩
  · omega
  · have : i.natAbs < 2 ^ 64 := by omega
    exact this
theorem fg_body {t : TS} {D : Ends} {σ : L2.St} {H : Hp} (h : t { nx := fun σ' H' => ∃ H'', Fg H H' H'' ∧ D.nx σ' H'', rt := fun v H' => ∃ H'', Fg H H' H'' ∧ D.rt v H'', bk := fun σ' H' => ∃ H'', Fg H H' H'' ∧ D.bk σ' H'', ct := fun σ' H' => ∃ H'', Fg H H' H'' ∧ D.ct σ' H'' } σ H) : sFg t D σ H := h
theorem upd_self {H : Hp} {a : Addr} {o : HO} (h : H a = some o) : upd H a o = H := by
  funext b
  unfold upd
  split
  · rename_i e; rw [e, h]
  · rfl
theorem upd_comm {H : Hp} {a b : Addr} {o u : HO} (h : a ≠ b) : upd (upd H a o) b u = upd (upd H b u) a o := by
  funext c
  unfold upd
  by_cases h1 : c = b
  · rw [if_pos h1, if_neg (by rw [h1]; exact Ne.symm h), if_pos h1]
  · rw [if_neg h1, if_neg h1]
theorem dp_ints {K : PySem.W.Frag} {H : Hp} : ∀ ns : List Int, DpAll K H (ns.map V.int) (ns.map PyData.int)
  | [] => .nil
  | n :: r => .cons (.int n) (dp_ints r)
theorem lay_ints : ∀ ns : List Int, PyData.canLayAll0 (ns.map PyData.int) = true
  | [] => by simp [PyData.canLayAll0]
  | n :: r => by simp [PyData.canLayAll0, PyData.canLay0, lay_ints r]
theorem dep_ints : ∀ ns : List Int, PyData.depthAll (ns.map PyData.int) = 0
  | [] => by simp [PyData.depthAll]
  | n :: r => by simp [PyData.depthAll, PyData.depth, dep_ints r]
theorem shaped_ints (ns : List Int) : SeqAt.shaped (.list (ns.map PyData.int)) = true := by
  unfold SeqAt.shaped
  rw [PyData.canLay0, lay_ints, PyData.depth, dep_ints]
  decide
theorem shaped_nil : SeqAt.shaped (.list []) = true := shaped_ints []
theorem eqv_ints : ∀ ns ms : List Int, PyData.eqvAll (ns.map PyData.int) (ms.map PyData.int) = decide (ns = ms)
  | [], [] => by simp [PyData.eqvAll]
  | [], m :: ms => by simp [PyData.eqvAll]
  | n :: ns, [] => by simp [PyData.eqvAll]
  | n :: ns, m :: ms => by
    simp only [List.map_cons, PyData.eqvAll, PyData.eqv, eqv_ints ns ms]
    by_cases h : n = m
    · subst h; by_cases h2 : ns = ms
      · subst h2; simp
      · simp [h2]
    · simp [h]
section
variable {K : PySem.W.Frag} {σ : L2.St} {H : Hp} {ta tb te : TE} {a b : Addr} {ns ms : List Int}
theorem dp_lst (h : SqL K H a (ns.map V.int)) : Dp K H (.ref a) (.list (ns.map PyData.int)) := .lst h (dp_ints ns)
theorem rv_eqI (ha : SqL K H a (ns.map V.int)) (hb : SqL K H b (ms.map V.int)) : RV (rEqD K) (.ref a) (.ref b) H (.bl (decide (ns = ms))) := fun Q q =>
  ⟨_, _, dp_lst ha, dp_lst hb, shaped_ints ns, shaped_ints ms, by rw [PyData.eqv, eqv_ints]; exact q⟩
theorem rv_neI (ha : SqL K H a (ns.map V.int)) (hb : SqL K H b (ms.map V.int)) : RV (rNeD K) (.ref a) (.ref b) H (.bl (!decide (ns = ms))) := fun Q q =>
  ⟨_, _, dp_lst ha, dp_lst hb, shaped_ints ns, shaped_ints ms, by rw [PyData.eqv, eqv_ints]; exact q⟩
/-- xs == [] and xs != [], the empty list made on the way -/
theorem et_isnil [Nod H] (hx : SqL K H a (ns.map V.int)) (ha : Ev ta σ H (.ref a)) : EvT (bFg (tTest (tOp (rEqD K) ta (tLst tNil)))) σ H (decide (ns = [])) :=
  et_fg fun Q q => ha _ (el_nil _ fun p hp => rv_eqI (ms := []) (sq_new hp hx) sq_up _ ⟨_, rfl, q _ (ex_new hp)⟩)
theorem et_nonil [Nod H] (hx : SqL K H a (ns.map V.int)) (ha : Ev ta σ H (.ref a)) : EvT (bFg (tTest (tOp (rNeD K) ta (tLst tNil)))) σ H (!decide (ns = [])) :=
  et_fg fun Q q => ha _ (el_nil _ fun p hp => rv_neI (ms := []) (sq_new hp hx) sq_up _ ⟨_, rfl, q _ (ex_new hp)⟩)
/-- a list made on the way, == [] and != [] -/
theorem et_isnilN [Nod H] (h : EvL ta σ H (ns.map V.int)) : EvT (bFg (tTest (tOp (rEqD K) ta (tLst tNil)))) σ H (decide (ns = [])) :=
  et_fg fun Q q => h _ fun r hr => el_nil _ fun p hp => rv_eqI (ms := []) (sq_new hp sq_up) sq_up _ ⟨_, rfl, q _ (ex_upd (none_upd hp).1 (ex_new hr))⟩
theorem et_nonilN [Nod H] (h : EvL ta σ H (ns.map V.int)) : EvT (bFg (tTest (tOp (rNeD K) ta (tLst tNil)))) σ H (!decide (ns = [])) :=
  et_fg fun Q q => h _ fun r hr => el_nil _ fun p hp => rv_neI (ms := []) (sq_new hp sq_up) sq_up _ ⟨_, rfl, q _ (ex_upd (none_upd hp).1 (ex_new hr))⟩
/-- a call of a def that leaves the heap as it is -/
theorem ev_call {sp : Sp} {vs : List V} {v : V} {E : XK} {t : TA} (h : EvA t σ H vs) (hs : ∀ Q : VK, Q v H → sp vs H Q E) : Ev (tCall sp [] E t) σ H v := fun Q q => h _ (by
  show sp (vs ++ []) H Q E
  rw [List.append_nil]
  exact hs Q q)
theorem el_call {sp : Sp} {vs xs : List V} {E : XK} {t : TA} (h : EvA t σ H vs) (hs : ∀ Q : VK, (∀ p, H p = none → Q (.ref p) (upd H p (.lst xs))) → sp vs H Q E) : EvL (tCall sp [] E t) σ H xs := fun Q q => h _ (by
  show sp (vs ++ []) H Q E
  rw [List.append_nil]
  exact hs Q q)
theorem w_call {sp : Sp} {vs : List V} {E : XK} {t : TA} {Q : VK} (h : EvA t σ H vs) (hs : sp vs H Q E) : tCall sp [] E t σ H Q := h _ (by
  show sp (vs ++ []) H Q E
  rw [List.append_nil]
  exact hs)
end
end Px
set_option Elab.async false
set_option linter.all false
set_option maxRecDepth 100000
set_option maxHeartbeats 4000000
namespace Px
open PySem L2
section
variable {K : PySem.W.Frag} {σ : L2.St} {H : Hp} {ta tb te : TE} {l b : Addr} {ns ms : List Int} {x : Int} {D : Ends} {s2 : TS}
theorem sz (n : Nat) (h : n < 16000000) : n < sizeLine := Nat.lt_of_lt_of_le h (by decide)
theorem s_appI (hz : ns.length < 16000000) (ha : Ev ta σ (upd H l (.lst (ns.map V.int))) (.ref l)) (h : Ev te σ (upd H l (.lst (ns.map V.int))) (.int x)) (k : D.nx σ (upd H l (.lst ((ns ++ [x]).map V.int)))) : tDrop (tBM K "list" rAppend ta (tCons te tNil)) D σ (upd H l (.lst (ns.map V.int))) :=
  s_app upd_same (by rw [List.length_map]; exact sz _ hz) ha h (by rw [upd_upd]; rw [List.map_append] at k; exact k)
theorem q_appI (hz : ns.length < 16000000) (ha : Ev ta σ (upd H l (.lst (ns.map V.int))) (.ref l)) (h : Ev te σ (upd H l (.lst (ns.map V.int))) (.int x)) (k : s2 D σ (upd H l (.lst ((ns ++ [x]).map V.int)))) : tSeq (tDrop (tBM K "list" rAppend ta (tCons te tNil))) s2 D σ (upd H l (.lst (ns.map V.int))) :=
  s_appI (D := { D with nx := s2 D }) hz ha h k
theorem s_retW {D : Ends} (h : te σ H D.rt) : tRet te D σ H := h
theorem w_op {r : R2} {Q : VK} (h : ta σ H fun x H1 => tb σ H1 fun y H2 => r x y H2 Q) : tOp r ta tb σ H Q := h
theorem w_cb {r : List V → Hp → VK → Prop} {t : TA} {Q : VK} (h : t σ H fun vs H1 => r vs H1 Q) : tCB r t σ H Q := h
theorem w_cons {t : TA} {Q : List V → Hp → Prop} (h : ta σ H fun x H1 => t σ H1 fun xs H2 => Q (x :: xs) H2) : tCons ta t σ H Q := h
theorem w_one {Q : List V → Hp → Prop} (h : ta σ H fun x H1 => Q [x] H1) : tCons ta tNil σ H Q := h
theorem w_ev {v : V} {Q : VK} (h : Ev te σ H v) (q : Q v H) : te σ H Q := h Q q
theorem w_lst {t : TA} {Q : VK} (h : t σ H fun xs H1 => xs.length ≤ sizeLine ∧ ∀ p, H1 p = none → Q (.ref p) (upd H1 p (.lst xs))) : tLst t σ H Q := h
theorem w_fg {Q : VK} (h : te σ H fun v H' => ∃ H'', Fg H H' H'' ∧ Q v H'') : tFg te σ H Q := h
theorem w_pop0 {x : V} {xs : List V} {a : Addr} {Q : VK} (ha : Ev ta σ H (.ref a)) (hx : H a = some (.lst (x :: xs))) (q : Q x (upd H a (.lst xs))) : tBM K "list" rPopAt ta (tCons (tC (.int 0)) tNil) σ H Q :=
  ha _ ⟨.inl ⟨rfl, _, sq_at hx⟩, a, x :: xs, 0, 0, x, rfl, rfl, hx, by decide, by decide, by unfold seqIndex?; simp, rfl, q⟩
theorem fg_newL {H H' : Hp} {p : Addr} {xs : List V} [n : Nod H] (hp : H p = none) (e : Ex H H') (h : H' p = some (.lst xs)) : Fg H H' (upd H p (.lst xs)) := fg_new trivial hp e h
theorem fg_mutL {H H' : Hp} {p : Addr} {xs ys : List V} [n : Nod H] (hp : H p = some (.lst xs)) (e : ∀ a u, a ≠ p → H a = some u → H' a = some u) (h : H' p = some (.lst ys)) : Fg H H' (upd H p (.lst ys)) := fg_mut trivial hp e h
theorem fg_mut_newL {H H' : Hp} {l p : Addr} {xs ys zs : List V} [n : Nod H] (hl : H l = some (.lst xs)) (hp : H p = none) (e : ∀ a u, a ≠ l → H a = some u → H' a = some u) (h : H' l = some (.lst ys)) (h2 : H' p = some (.lst zs)) : Fg H H' (upd (upd H l (.lst ys)) p (.lst zs)) := fg_mut_new trivial trivial hl hp e h h2
theorem cutV_int (ns : List Int) (lo hi : Option Int) : cutV (ns.map V.int) lo hi = ((ns.drop (HT.sIx ns.length 0 lo)).take (HT.sIx ns.length ns.length hi - HT.sIx ns.length 0 lo)).map V.int := by
  unfold cutV
  rw [List.length_map, List.map_take, List.map_drop]
theorem cut_to (ns : List Int) (k : Nat) : cutV (ns.map V.int) none (some (k : Int)) = (ns.take k).map V.int := by
  rw [cutV_int, HT.sIx_none, HT.sIx_nat]
  simp
theorem cut_from (ns : List Int) (k : Nat) : cutV (ns.map V.int) (some (k : Int)) none = (ns.drop k).map V.int := by
  rw [cutV_int, HT.sIx_none, HT.sIx_nat]
  by_cases h : k ≤ ns.length
  · rw [show min k ns.length = k by omega, List.take_of_length_le (by simp)]
  · rw [show min k ns.length = ns.length by omega, List.drop_of_length_le (Nat.le_refl _), List.drop_of_length_le (by omega)]
    simp
end
end Px
set_option Elab.async false
set_option linter.all false
set_option maxRecDepth 100000
set_option maxHeartbeats 4000000
namespace Px
open PySem L2
/-- what a for asks, once what it walks is known -/
def Lp (J : It) (g : TG) (tb : TS) (D : Ends) (σ : L2.St) (H1 : Hp) : Prop := ∃ W : Nat → Nat → L2.St → Hp → Prop, (∃ m, W 0 m σ H1) ∧ ∀ i m σ H, W i m σ H →
  (J.stop i H ∧ D.nx σ H) ∨ (J.go i H ∧ ∃ N : L2.St → Hp → Prop, (∀ σ' H', N σ' H' → ∃ m', m' < m ∧ W (i + 1) m' σ' H') ∧ ∀ x H', J.yld i H x H' → g x σ H' fun σ2 H2 => tb { D with nx := N, ct := N, bk := D.nx } σ2 H2)
section
variable {K : PySem.W.Frag} {σ : L2.St} {H : Hp} {D : Ends} {g : TG} {tu s2 : TS} {n : Nat}
theorem w_forR1 {ta : TA} (h : ta σ H fun vs H1 => ∃ j : Int, vs = [.int j] ∧ -(2 ^ 62) ≤ j ∧ j < 2 ^ 62 ∧ Lp (Itr 0 j.toNat) g tu D σ H1) : tFor (iRng1 ta) g tu D σ H := h
theorem w_forR2 {ta : TA} (h : ta σ H fun vs H1 => ∃ i j : Int, vs = [.int i, .int j] ∧ (-(2 ^ 62) ≤ i ∧ i < 2 ^ 62 ∧ -(2 ^ 62) ≤ j ∧ j < 2 ^ 62) ∧ Lp (Itr i (j - i).toNat) g tu D σ H1) : tFor (iRng2 ta) g tu D σ H := h
theorem w_forL {tl : TE} (h : tl σ H fun x H1 => ∃ a, x = .ref a ∧ (∃ xs, SqL K H1 a xs) ∧ Lp (Itl K a) g tu D σ H1) : tFor (iList K tl) g tu D σ H := h
theorem w_forT {tl : TE} (h : tl σ H fun x H1 => ∃ a, x = .ref a ∧ (∃ xs, SqT K H1 a xs) ∧ Lp (Itt K a) g tu D σ H1) : tFor (iTup K tl) g tu D σ H := h
theorem w_forE {ta : TA} (h : ta σ H fun vs H1 => ∃ a xs, vs = [.ref a] ∧ SqL K H1 a xs ∧ Lp (Ite K a) g tu D σ H1) : tFor (iEnum K ta) g tu D σ H := h
theorem w_forZ {ta : TA} (h : ta σ H fun vs H1 => ∃ a b xs ys, vs = [.ref a, .ref b] ∧ SqL K H1 a xs ∧ SqL K H1 b ys ∧ Lp (Itz K a b) g tu D σ H1) : tFor (iZip K ta) g tu D σ H := h
theorem lp_range {k : Nat} (Pv : Nat → L2.St → Hp → Prop) (h0 : Pv 0 σ H)
    (hs : ∀ (i : Nat) σ' H', i < k → Pv i σ' H' → tu { D with nx := Pv (i + 1), ct := Pv (i + 1), bk := D.nx } (σ'.set n (some (.int (i : Int)))) H') (hd : ∀ σ' H', Pv k σ' H' → D.nx σ' H') : Lp (Itr 0 k) (gName n) tu D σ H :=
  for_range (lo := 0) (n := k) Pv h0 (fun i σ' H' hi p => by
    show tu { D with nx := Pv (i + 1), ct := Pv (i + 1), bk := D.nx } (σ'.set n (some (.int ((0 : Int) + (i : Int))))) H'
    rw [Int.zero_add]
    exact hs i σ' H' hi p) hd
theorem lp_list {a : Addr} {xs : List V} (Pv : Nat → L2.St → Hp → Prop) (h0 : Pv 0 σ H) (hl : ∀ i σ' H', i ≤ xs.length → Pv i σ' H' → SqL K H' a xs)
    (hs : ∀ i x σ' H', xs[i]? = some x → Pv i σ' H' → g x σ' H' fun σ2 H2 => tu { D with nx := Pv (i + 1), ct := Pv (i + 1), bk := D.nx } σ2 H2) (hd : ∀ σ' H', Pv xs.length σ' H' → D.nx σ' H') : Lp (Itl K a) g tu D σ H := for_list Pv h0 hl hs hd
theorem lp_tup {a : Addr} {xs : List V} (Pv : Nat → L2.St → Hp → Prop) (h0 : Pv 0 σ H) (hl : ∀ i σ' H', i ≤ xs.length → Pv i σ' H' → SqT K H' a xs)
    (hs : ∀ i x σ' H', xs[i]? = some x → Pv i σ' H' → g x σ' H' fun σ2 H2 => tu { D with nx := Pv (i + 1), ct := Pv (i + 1), bk := D.nx } σ2 H2) (hd : ∀ σ' H', Pv xs.length σ' H' → D.nx σ' H') : Lp (Itt K a) g tu D σ H := for_tup Pv h0 hl hs hd
/-- for k, x in enumerate(xs): two names -/
theorem lp_enum {a : Addr} {xs : List V} {n1 n2 : Nat} (Pv : Nat → L2.St → Hp → Prop) (h0 : Pv 0 σ H) (hl : ∀ i σ' H', i ≤ xs.length → Pv i σ' H' → SqL K H' a xs)
    (hs : ∀ i x σ' H' T, xs[i]? = some x → Pv i σ' H' → H' T = none → tu { D with nx := Pv (i + 1), ct := Pv (i + 1), bk := D.nx } ((σ'.set n1 (some (.int (i : Int)))).set n2 (some x)) (upd H' T (.tup [.int (i : Int), x]))) (hd : ∀ σ' H', Pv xs.length σ' H' → D.nx σ' H') :
    Lp (Ite K a) (gTup K 2 (gCons (gName n1) (gCons (gName n2) gNil))) tu D σ H :=
  for_it (walk_enum (K := K) (a := a) (xs := xs)) Pv h0 hl (fun i v σ' H' H'' hi p y => by
    obtain ⟨T, x, y, rfl, hT, rfl, e1, e2⟩ := y
    cases e1
    exact ⟨T, _, rfl, st_at upd_same, rfl, _, _, rfl, _, _, rfl, rfl, hs i y σ' H' T e2 p hT⟩) hd
/-- for x, y in zip(xs, ys): two names -/
theorem lp_zip {a b : Addr} {xs ys : List V} {n1 n2 : Nat} (Pv : Nat → L2.St → Hp → Prop) (h0 : Pv 0 σ H) (hl : ∀ i σ' H', i ≤ min xs.length ys.length → Pv i σ' H' → SqL K H' a xs ∧ SqL K H' b ys)
    (hs : ∀ i x y σ' H' T, xs[i]? = some x → ys[i]? = some y → Pv i σ' H' → H' T = none → tu { D with nx := Pv (i + 1), ct := Pv (i + 1), bk := D.nx } ((σ'.set n1 (some x)).set n2 (some y)) (upd H' T (.tup [x, y]))) (hd : ∀ σ' H', Pv (min xs.length ys.length) σ' H' → D.nx σ' H') :
    Lp (Itz K a b) (gTup K 2 (gCons (gName n1) (gCons (gName n2) gNil))) tu D σ H :=
  for_it (walk_zip (K := K) (a := a) (b := b) (xs := xs) (ys := ys) rfl) Pv h0 hl (fun i v σ' H' H'' hi p y => by
    obtain ⟨T, x, y, rfl, hT, rfl, e1, e2⟩ := y
    exact ⟨T, _, rfl, st_at upd_same, rfl, _, _, rfl, _, _, rfl, rfl, hs i x y σ' H' T e1 e2 p hT⟩) hd
end
end Px
set_option Elab.async false
set_option linter.all false
set_option maxRecDepth 100000
set_option maxHeartbeats 4000000
namespace Px
open PySem L2
def pV (p : Int → Bool) : V → Bool
  | .int i => p i
  | _ => false
def fV (f : Int → Int) : V → V
  | .int i => .int (f i)
  | v => v
theorem filt_int (p : Int → Bool) (f : Int → Int) (ns : List Int) : ((ns.map V.int).filter (pV p)).map (fV f) = ((ns.filter p).map f).map V.int := by
  induction ns with
  | nil => rfl
  | cons a l ih =>
    simp only [List.map_cons, List.filter_cons]
    show (List.map (fV f) (if pV p (V.int a) = true then V.int a :: List.filter (pV p) (l.map V.int) else List.filter (pV p) (l.map V.int))) = _
    have e : pV p (V.int a) = p a := rfl
    rw [e]
    by_cases h : p a = true
    · rw [if_pos h, if_pos h]
      simp only [List.map_cons, ih]
      rfl
    · rw [if_neg h, if_neg h]
      exact ih
section
variable {K : PySem.W.Frag} {σ : L2.St} {H : Hp} {tl te : TE} {t : TT} {n : Nat}
theorem mem_int {ns : List Int} {x : V} (h : x ∈ ns.map V.int) : ∃ i ∈ ns, x = .int i := by
  obtain ⟨i, hi, rfl⟩ := List.mem_map.mp h
  exact ⟨i, hi, rfl⟩
/-- [f(i) for i in ns if p(i)], ints to ints -/
theorem el_lcI {a : Addr} {ns : List Int} {vs : List Nat} (p : Int → Bool) (f : Int → Int) (h : Ev tl σ H (.ref a)) (hx : SqL K H a (ns.map V.int)) (hz : ns.length ≤ 16000000) (hw : ∀ x, wipe ((wipe σ vs).set n (some x)) vs = wipe σ vs)
    (ht : ∀ i ∈ ns, ∀ D acc, H D = none → EvT t ((wipe σ vs).set n (some (.int i))) (upd H D (.lst acc)) (p i)) (he : ∀ i ∈ ns, p i = true → ∀ D acc, H D = none → Ev te ((wipe σ vs).set n (some (.int i))) (upd H D (.lst acc)) (.int (f i))) :
    EvL (tLc (iList K tl) (gName n) t te vs) σ H (((ns.filter p).map f).map V.int) := by
  rw [← filt_int]
  refine el_lc (pV p) (fV f) h hx (by rw [List.length_map]; exact Nat.le_trans hz (by decide)) hw (fun x hx D acc hD => ?_) (fun x hx hp D acc hD => ?_)
  · obtain ⟨i, hi, rfl⟩ := mem_int hx
    exact ht i hi D acc hD
  · obtain ⟨i, hi, rfl⟩ := mem_int hx
    exact he i hi hp D acc hD
theorem el_lcIN [Nod H] {ns : List Int} {vs : List Nat} (p : Int → Bool) (f : Int → Int) (h : EvL tl σ H (ns.map V.int)) (hz : ns.length ≤ 16000000) (hw : ∀ x, wipe ((wipe σ vs).set n (some x)) vs = wipe σ vs)
    (ht : ∀ i ∈ ns, ∀ q D acc, H q = none → H D = none → q ≠ D → EvT t ((wipe σ vs).set n (some (.int i))) (upd (upd H q (.lst (ns.map V.int))) D (.lst acc)) (p i)) (he : ∀ i ∈ ns, p i = true → ∀ q D acc, H q = none → H D = none → q ≠ D → Ev te ((wipe σ vs).set n (some (.int i))) (upd (upd H q (.lst (ns.map V.int))) D (.lst acc)) (.int (f i))) :
    EvL (tFg (tLc (iList K tl) (gName n) t te vs)) σ H (((ns.filter p).map f).map V.int) := by
  rw [← filt_int]
  refine el_lcN (pV p) (fV f) h (by rw [List.length_map]; exact Nat.le_trans hz (by decide)) hw (fun x hx q D acc hq hD hn => ?_) (fun x hx hp q D acc hq hD hn => ?_)
  · obtain ⟨i, hi, rfl⟩ := mem_int hx
    exact ht i hi q D acc hq hD hn
  · obtain ⟨i, hi, rfl⟩ := mem_int hx
    exact he i hi hp q D acc hq hD hn
/-- a call whose first argument is a new list -/
theorem ev_callL [Nod H] {sp : Sp} {xs vs : List V} {v : V} {E : XK} {ta : TA} (h : EvL tl σ H xs) (ha : ∀ p, H p = none → EvA ta σ (upd H p (.lst xs)) vs) (hs : ∀ p, H p = none → ∀ Q : VK, Q v (upd H p (.lst xs)) → sp (.ref p :: vs) (upd H p (.lst xs)) Q E) : Ev (tFg (tCall sp [] E (tCons tl ta))) σ H v :=
  ev_fg fun Q q => h _ fun p hp => ha p hp _ (by
    show sp (.ref p :: vs ++ []) _ _ E
    rw [List.append_nil]
    exact hs p hp _ (q _ (ex_new hp)))
theorem ex_ne {H H' : Hp} {p : Addr} {xs : List V} {o : HO} (hp : H p = none) (e : Ex H H') : Ex H (upd H' p o) := ex_upd hp e
end
end Px
set_option Elab.async false
set_option linter.all false
set_option maxRecDepth 100000
set_option maxHeartbeats 4000000
namespace Px
open PySem L2
/-! ### tests by what they say -/
def EvP (t : TT) (σ : L2.St) (H : Hp) (P : Prop) : Prop := ∀ Q : Bool → Hp → Prop, (P → Q true H) → (¬ P → Q false H) → t σ H Q
section
variable {K : PySem.W.Frag} {σ : L2.St} {H : Hp} {ta tb tc te tl : TE} {t u : TT} {x y z v : V} {D : Ends} {s1 s2 s3 tu : TS} {n : Nat} {i j k : Int} {P R : Prop}
theorem ev_v' (h : σ[n]? = some (some v)) : Ev (tVar n) σ H v := ev_v n h
theorem ep_of {b : Bool} (h : EvT t σ H b) : EvP t σ H (b = true) := fun Q h1 h2 => h Q (by
  cases b with
  | true => exact h1 rfl
  | false => exact h2 (by decide))
theorem ep_dec [Decidable P] (h : EvT t σ H (decide P)) : EvP t σ H P := fun Q h1 h2 => h Q (by
  by_cases c : P
  · rw [decide_eq_true c]; exact h1 c
  · rw [decide_eq_false c]; exact h2 c)
theorem ep_iff (h : EvP t σ H P) (e : P ↔ R) : EvP t σ H R := fun Q h1 h2 => h Q (fun p => h1 (e.mp p)) fun p => h2 fun r => p (e.mpr r)
theorem ep_lt (ha : Ev ta σ H (.int i)) (hb : Ev tb σ H (.int j)) : EvP (tTest (tOp oLt ta tb)) σ H (i < j) := ep_dec (et_t (ev_lt ha hb))
theorem ep_le (ha : Ev ta σ H (.int i)) (hb : Ev tb σ H (.int j)) : EvP (tTest (tOp oLe ta tb)) σ H (i ≤ j) := ep_dec (et_t (ev_le ha hb))
theorem ep_gt (ha : Ev ta σ H (.int i)) (hb : Ev tb σ H (.int j)) : EvP (tTest (tOp oGt ta tb)) σ H (j < i) := ep_dec (et_t (ev_gt ha hb))
theorem ep_ge (ha : Ev ta σ H (.int i)) (hb : Ev tb σ H (.int j)) : EvP (tTest (tOp oGe ta tb)) σ H (j ≤ i) := ep_dec (et_t (ev_ge ha hb))
theorem ep_eqi (ha : Ev ta σ H (.int i)) (hb : Ev tb σ H (.int j)) : EvP (tTest (tOp rEq ta tb)) σ H (i = j) := ep_dec (et_t (ev_eqi ha hb))
theorem ep_nei (ha : Ev ta σ H (.int i)) (hb : Ev tb σ H (.int j)) : EvP (tTest (tOp rNe ta tb)) σ H (i ≠ j) := fun Q h1 h2 => et_t (ev_nei ha hb) Q (by
  by_cases c : i = j
  · rw [decide_eq_true c]; exact h2 fun z => z c
  · rw [decide_eq_false c]; exact h1 c)
theorem ep_b {b : Bool} (h : Ev te σ H (.bl b)) : EvP (tB te) σ H (b = true) := ep_of (et_b h)
theorem ep_bd [Decidable P] (h : Ev te σ H (.bl (decide P))) : EvP (tB te) σ H P := ep_dec (et_b h)
theorem ep_isN (ha : Ev ta σ H x) : EvP (tTest (tOp oIsN ta (tC .non))) σ H (x = .non) := ep_dec (et_t (ev_isN ha))
theorem ep_not (h : EvP t σ H P) : EvP (tNot t) σ H (¬ P) := fun Q h1 h2 => h _ (fun p => h2 fun z => z p) h1
theorem ep_and (h : EvP t σ H P) (g : P → EvP u σ H R) : EvP (tAnd t u) σ H (P ∧ R) := fun Q h1 h2 => h _ (fun p => iteT (g p _ (fun r => h1 ⟨p, r⟩) fun r => h2 fun z => r z.2)) fun p => iteF (h2 fun z => p z.1)
theorem ep_or (h : EvP t σ H P) (g : ¬ P → EvP u σ H R) : EvP (tOr t u) σ H (P ∨ R) := fun Q h1 h2 => h _ (fun p => iteT (h1 (.inl p))) fun p => iteF (g p _ (fun r => h1 (.inr r)) fun r => h2 fun z => z.elim p r)
theorem ep_yes (h : EvP t σ H P) (p : P) : EvT t σ H true := fun Q q => h Q (fun _ => q) fun z => absurd p z
theorem ep_no (h : EvP t σ H P) (p : ¬ P) : EvT t σ H false := fun Q q => h Q (fun z => absurd z p) fun _ => q
/-- i < j < k -/
theorem ep_chain {r r' : R2} {a b : Bool} (ha : Ev ta σ H x) (hb : Ev tb σ H y) (hr : RV r x y H (.bl a)) (hc : a = true → Ev tc σ H z) (hr' : a = true → RV r' y z H (.bl b)) : EvP (tTest (tChain r r' ta tb tc)) σ H (a = true ∧ b = true) :=
  ep_iff (ep_of (et_t (ev_chain ha hb hr hc hr'))) (by simp)
theorem s_ifP (h : EvP t σ H P) (h1 : P → s1 D σ H) (h2 : ¬ P → s2 D σ H) : tIfS t s1 s2 D σ H := h _ (fun p => iteT (h1 p)) fun p => iteF (h2 p)
theorem q_ifP (h : EvP t σ H P) (h1 : P → s1 { D with nx := s3 D } σ H) (h2 : ¬ P → s2 { D with nx := s3 D } σ H) : tSeq (tIfS t s1 s2) s3 D σ H := s_ifP (D := { D with nx := s3 D }) h h1 h2
theorem q_whenP (h : EvP t σ H P) (h1 : P → s1 { D with nx := s3 D } σ H) (h2 : ¬ P → s3 D σ H) : tSeq (tIfS t s1 tNext) s3 D σ H := s_ifP (D := { D with nx := s3 D }) h h1 h2
theorem s_whenP (h : EvP t σ H P) (h1 : P → s1 D σ H) (h2 : ¬ P → D.nx σ H) : tIfS t s1 tNext D σ H := s_ifP h h1 h2
theorem q_never (h : EvP t σ H P) (h1 : ¬ P) (h2 : s3 D σ H) : tSeq (tIfS t s1 tNext) s3 D σ H := q_whenP h (fun p => absurd p h1) fun _ => h2
theorem s_whileP (W : Nat → L2.St → Hp → Prop) (m0 : Nat) (h0 : W m0 σ H)
    (hs : ∀ m σ' H', W m σ' H' → ∃ P, EvP t σ' H' P ∧ (P → tu { D with nx := fun σ2 H2 => ∃ m', m' < m ∧ W m' σ2 H2, ct := fun σ2 H2 => ∃ m', m' < m ∧ W m' σ2 H2, bk := D.nx } σ' H') ∧ (¬ P → D.nx σ' H')) : tWhile t tu D σ H :=
  ⟨W, ⟨m0, h0⟩, fun m σ' H' hw => by
    obtain ⟨P, hb, h1, h2⟩ := hs m σ' H' hw
    exact hb _ (fun p => iteT ⟨_, fun σ2 H2 q => q, h1 p⟩) fun p => iteF (h2 p)⟩
theorem q_whileP (W : Nat → L2.St → Hp → Prop) (m0 : Nat) (h0 : W m0 σ H)
    (hs : ∀ m σ' H', W m σ' H' → ∃ P, EvP t σ' H' P ∧ (P → tu { D with nx := fun σ2 H2 => ∃ m', m' < m ∧ W m' σ2 H2, ct := fun σ2 H2 => ∃ m', m' < m ∧ W m' σ2 H2, bk := s2 D } σ' H') ∧ (¬ P → s2 D σ' H')) : tSeq (tWhile t tu) s2 D σ H :=
  s_whileP (D := { D with nx := s2 D }) W m0 h0 hs
theorem w_evL {xs : List V} {Q : VK} (h : EvL te σ H xs) (k : ∀ p, H p = none → Q (.ref p) (upd H p (.lst xs))) : te σ H Q := h Q k
theorem w_callW {sp : Sp} {E : XK} {t : TA} {Q : VK} (h : t σ H fun vs H1 => sp (vs ++ []) H1 Q E) : tCall sp [] E t σ H Q := h
theorem w_nil {Q : List V → Hp → Prop} (h : Q [] H) : tNil σ H Q := h
theorem q_drop (h : te σ H fun _ H1 => s2 D σ H1) : tSeq (tDrop te) s2 D σ H := h
theorem s_dropW (h : te σ H fun _ H1 => D.nx σ H1) : tDrop te D σ H := h
theorem w_test {b : Bool} {Q : Bool → Hp → Prop} (h : te σ H fun v H1 => ∃ b, v = .bl b ∧ Q b H1) : tTest te σ H Q := h
theorem w_B {Q : Bool → Hp → Prop} (h : te σ H fun v H1 => ∃ b, v = .bl b ∧ Q b H1) : tB te σ H Q := h
theorem w_if {Q : VK} (h : t σ H fun b H1 => if b = true then ta σ H1 Q else tb σ H1 Q) : tIf t ta tb σ H Q := h
end
/-! ### lists that are one's own, over a base -/
structure Own (B : Hp) (L : List (Addr × List V)) (H : Hp) : Prop where
  nod : Nod H
  ex : Ex B H
  off : ∀ q ∈ L, B q.1 = none
  dis : (L.map (·.1)).Nodup
  has : ∀ q ∈ L, H q.1 = some (.lst q.2)
section
variable {K : PySem.W.Frag} {B H H' : Hp} {L : List (Addr × List V)} {p a : Addr} {xs ys zs : List V}
theorem Own.nil [n : Nod H] : Own H [] H := ⟨n, ex_refl, fun _ h => (List.not_mem_nil h).elim, List.Pairwise.nil, fun _ h => (List.not_mem_nil h).elim⟩
theorem Own.atI (o : Own B L H) (i : Nat) (h : L[i]? = some (p, xs)) : H p = some (.lst xs) := o.has _ (List.mem_of_getElem? h)
theorem Own.sqi (o : Own B L H) (i : Nat) (h : L[i]? = some (p, xs)) : SqL K H p xs := sq_at (o.atI i h)
theorem Own.offI (o : Own B L H) (i : Nat) (h : L[i]? = some (p, xs)) : B p = none := o.off _ (List.mem_of_getElem? h)
theorem Own.sq (o : Own B L H) (h : SqL K B a xs) : SqL K H a xs := ex_sq o.ex h
theorem Own.sqt (o : Own B L H) (h : SqT K B a xs) : SqT K H a xs := ex_sqt o.ex h
theorem Own.new (o : Own B L H) (hp : H p = none) : Own B ((p, xs) :: L) (upd H p (.lst xs)) where
  nod := have := o.nod; inferInstance
  ex := ex_upd (ex_none o.ex hp) o.ex
  off := fun q hq => by
    rcases List.mem_cons.mp hq with rfl | hq
    · exact ex_none o.ex hp
    · exact o.off q hq
  dis := by
    rw [List.map_cons, List.nodup_cons]
    refine ⟨fun z => ?_, o.dis⟩
    obtain ⟨q, hq, e⟩ := List.mem_map.mp z
    have := o.has q hq
    rw [e, hp] at this
    cases this
  has := fun q hq => by
    rcases List.mem_cons.mp hq with rfl | hq
    · exact upd_same
    · rw [upd_ne (ne_of_none (o.has q hq) hp)]; exact o.has q hq
theorem Own.tup (o : Own B L H) (hp : H p = none) : Own B L (upd H p (.tup xs)) where
  nod := have := o.nod; inferInstance
  ex := ex_upd (ex_none o.ex hp) o.ex
  off := o.off
  dis := o.dis
  has := fun q hq => by rw [upd_ne (ne_of_none (o.has q hq) hp)]; exact o.has q hq
theorem Own.tmp (o : Own B L H) (hp : H p = none) : Own B L (upd H p (.lst xs)) where
  nod := have := o.nod; inferInstance
  ex := ex_upd (ex_none o.ex hp) o.ex
  off := o.off
  dis := o.dis
  has := fun q hq => by rw [upd_ne (ne_of_none (o.has q hq) hp)]; exact o.has q hq
theorem Own.any (o : Own B L H) (e : Ex H H') (n : Nod H') : Own B L H' := ⟨n, ex_trans o.ex e, o.off, o.dis, fun q hq => e _ _ (o.has q hq)⟩
theorem Own.mut (o : Own B L H) (i : Nat) (h : L[i]? = some (p, xs)) : Own B (L.set i (p, ys)) (upd H p (.lst ys)) where
  nod := have := o.nod; inferInstance
  ex := fun b u hb => by
    rw [upd_ne (fun e => by rw [e, o.offI i h] at hb; cases hb)]
    exact o.ex b u hb
  off := fun q hq => by
    rcases List.mem_or_eq_of_mem_set hq with hq | rfl
    · exact o.off q hq
    · exact o.offI i h
  dis := by
    have e : (L.set i (p, ys)).map (·.1) = L.map (·.1) := by
      rw [List.map_set]
      obtain ⟨hi, hx⟩ := List.getElem?_eq_some_iff.mp h
      have : (L.map (·.1))[i]'(by simpa using hi) = p := by rw [List.getElem_map, hx]
      have e2 := List.set_getElem_self (as := L.map (·.1)) (i := i) (by simpa using hi)
      rw [this] at e2
      exact e2
    rw [e]; exact o.dis
  has := fun q hq => by
    obtain ⟨j, hj⟩ := List.mem_iff_getElem?.mp hq
    obtain ⟨hi, hx⟩ := List.getElem?_eq_some_iff.mp h
    by_cases e : i = j
    · subst e
      rw [List.getElem?_set_self hi] at hj
      cases hj
      exact upd_same
    · rw [List.getElem?_set_ne e] at hj
      have ne : q.1 ≠ p := fun z => by
        have h1 : (L.map (·.1))[i]? = some p := by rw [List.getElem?_map, h]; rfl
        have h2 : (L.map (·.1))[j]? = some p := by rw [List.getElem?_map, hj]; exact congrArg some z
        have hil : i < (L.map (·.1)).length := by simpa using hi
        exact e ((List.getElem?_inj hil o.dis).mp (h1.trans h2.symm))
      rw [upd_ne ne]
      exact o.has q (List.mem_of_getElem? hj)
theorem Own.sub {L' : List (Addr × List V)} (o : Own B L H) (s : L'.Sublist L) : Own B L' H := ⟨o.nod, o.ex, fun q h => o.off q (s.subset h), o.dis.sublist (s.map _), fun q h => o.has q (s.subset h)⟩
theorem Own.drop1 {q : Addr × List V} (o : Own B (q :: L) H) : Own B L H := o.sub (List.sublist_cons_self _ _)
theorem Own.drop2 {q r : Addr × List V} (o : Own B (r :: q :: L) H) : Own B (r :: L) H := o.sub ((List.sublist_cons_self _ _).cons₂ _)
theorem Own.perm {L' : List (Addr × List V)} (o : Own B L H) (s : L'.Perm L) : Own B L' H := ⟨o.nod, o.ex, fun q h => o.off q (s.mem_iff.mp h), (s.map _).nodup_iff.mpr o.dis, fun q h => o.has q (s.mem_iff.mp h)⟩
/-- all of it is the base from here on -/
theorem Own.base (o : Own B L H) : Own H [] H := have := o.nod; Own.nil
theorem Own.keep (o : Own B L H) [Nod B] : Fg B H B := fg_same o.ex
theorem Own.ret (o : Own B L H) [Nod B] (i : Nat) (h : L[i]? = some (p, xs)) : Fg B H (upd B p (.lst xs)) := fg_newL (o.offI i h) o.ex (o.atI i h)
/-- within a longer life: what was one's own is part of the base of another -/
theorem Own.into {B2 : Hp} {M : List (Addr × List V)} (o : Own B L H) (o2 : Own H M B2) : Own B L B2 := o.any o2.ex o2.nod
/-! ### a list that is handed in and changed -/
def del (H : Hp) (a : Addr) : Hp := fun b => if b = a then none else H b
theorem del_ex : Ex (del H a) H := fun b o h => by
  unfold del at h
  split at h
  · cases h
  · exact h
theorem del_at : del H a a = none := if_pos rfl
theorem del_ne {b : Addr} (h : b ≠ a) : del H a b = H b := if_neg h
theorem del_sq {r : Addr} (h : r ≠ a) (s : SqL K H r xs) : SqL K (del H a) r xs := by
  rcases s with (s | ⟨ob, s⟩) | s
  · exact .inl (.inl (by rw [del_ne h]; exact s))
  · exact .inl (.inr ⟨ob, by rw [del_ne h]; exact s⟩)
  · exact .inr s
theorem Own.enter [n : Nod H] (h : H a = some (.lst xs)) : Own (del H a) [(a, xs)] H :=
  ⟨n, del_ex, fun q hq => by rw [List.mem_singleton.mp hq]; exact del_at, by simp, fun q hq => by rw [List.mem_singleton.mp hq]; exact h⟩
theorem Own.exit [Nod H] (o : Own (del H a) L H') (h : H a = some (.lst xs)) (i : Nat) (hi : L[i]? = some (a, ys)) : Fg H H' (upd H a (.lst ys)) :=
  fg_mutL h (fun b u hb hu => o.ex b u (by rw [del_ne hb]; exact hu)) (o.atI i hi)
theorem Own.exitN [Nod H] (o : Own (del H a) L H') (h : H a = some (.lst xs)) (i j : Nat) (hi : L[i]? = some (a, ys)) (hj : L[j]? = some (p, zs)) (ne : p ≠ a) : Fg H H' (upd (upd H a (.lst ys)) p (.lst zs)) :=
  fg_mut_newL h (by have := o.offI j hj; rw [del_ne ne] at this; exact this) (fun b u hb hu => o.ex b u (by rw [del_ne hb]; exact hu)) (o.atI i hi) (o.atI j hj)
theorem Own.ne (o : Own B L H) (i j : Nat) (hi : L[i]? = some (p, xs)) (hj : L[j]? = some (a, ys)) (h : i ≠ j) : p ≠ a := fun z => by
  have h1 : (L.map (·.1))[i]? = some p := by rw [List.getElem?_map, hi]; rfl
  have h2 : (L.map (·.1))[j]? = some p := by rw [List.getElem?_map, hj]; exact congrArg some z.symm
  have hil : i < (L.map (·.1)).length := by have := (List.getElem?_eq_some_iff.mp hi).1; simpa using this
  exact h ((List.getElem?_inj hil o.dis).mp (h1.trans h2.symm))
theorem Own.neB (o : Own B L H) (i : Nat) (hi : L[i]? = some (p, xs)) {u : HO} (h : B a = some u) : a ≠ p := fun z => by rw [z, o.offI i hi] at h; cases h
end
end Px
set_option Elab.async false
set_option linter.all false
set_option maxRecDepth 100000
set_option maxHeartbeats 4000000
/-! list(enumerate(xs)), xs a list: after the model of the kit's list(d.items()) -/
namespace PySem.W
open PySem PySem.Calls PyProof.Rows PyProof.V PySem.Spec
theorem enl_no_len : typeLookup (.type "enumerate") "__len__" = pure none := am_miss_of_fast (by decide +kernel)
theorem enl_no_hint : typeLookup (.type "enumerate") "__length_hint__" = pure none := am_miss_of_fast (by decide +kernel)
structure EnG (items : Array Value) (lo : Addr) (h : Heap) (as : List Addr) : Prop where
  rise : as.Pairwise (· < ·)
  above : ∀ a ∈ as, lo < a
  pairs : ∀ (j : Nat) (a : Addr), as[j]? = some a → ∃ (hj : j < items.size) (tk : Nat), h.get? a = some { cls := .type "tuple", data := .seq #[.int j tk, items[j]] }
theorem EnG.there {items : Array Value} {lo : Addr} {h : Heap} {as : List Addr} (g : EnG items lo h as) {a : Addr} (ha : a ∈ as) : a < h.objs.size := by
  obtain ⟨j, hj⟩ := List.mem_iff_getElem?.mp ha
  obtain ⟨_, _, e⟩ := g.pairs j a hj
  exact Heap.lt_size e
def EnSt (h : Heap) (e it l S : Addr) (i : Nat) (items : Array Value) : Prop :=
  h.IsListIter it l i ∧ h.IsList l items ∧ ((∃ old, IsEnum h e it i old) ∨ ∃ old T f oT, IsEnumHeld h e it i old T f ∧ h.get? T = some oT ∧ T ≠ e ∧ T ≠ it ∧ T ≠ S)
theorem EnSt.keep {h h' : Heap} {e it l S : Addr} {i : Nat} {items : Array Value} (st : EnSt h e it l S i items) (hk : ∀ b o, b ≠ S → h.get? b = some o → h'.get? b = some o) (h1 : e ≠ S) (h2 : it ≠ S) (h3 : l ≠ S) : EnSt h' e it l S i items := by
  obtain ⟨hit, hl, he⟩ := st
  refine ⟨hit.at fun o x => hk _ o h2 x, hl.at fun o x => hk _ o h3 x, ?_⟩
  rcases he with ⟨old, he⟩ | ⟨old, T, f, oT, he, hT, r1, r2, r3⟩
  · exact .inl ⟨old, hk _ _ h1 he⟩
  · exact .inr ⟨old, T, f, oT, hk _ _ h1 he, hk _ _ r3 hT, r1, r2, r3⟩
section
variable {prog : Program} {w : World} {A : Around} {E : Value → Shared → Prop} {s : Shared}
theorem en_item {e it l S : Addr} {i : Nat} {items : Array Value} {Q : Option Value → Shared → Prop} (st : EnSt s.heap e it l S i items) (hS : S < s.heap.objs.size) (hei : e ≠ it) (hle : l ≠ e) (hli : l ≠ it) (hlt : i < items.size)
    (hQ : ∀ h' tk, EnSt h' e it l S (i + 1) items → (∃ t, h'.get? s.heap.objs.size = some { cls := .type "tuple", data := .seq #[.int i t, items[i]] }) →
      (∀ b o, b ≠ e → b ≠ it → s.heap.get? b = some o → h'.get? b = some o) → Q (some (.ref s.heap.objs.size)) { s with heap := h', toks := tk }) :
    wpAny (model prog w) A (pyNext (.ref e)) Q E s := by
  obtain ⟨hit, hl, he⟩ := st
  have ex := Array.getElem?_eq_getElem hlt
  have ec : ((i + 1 : Nat) : Int) = (i : Int) + 1 := by omega
  have nit : s.heap.objs.size ≠ it := let ⟨_, x, _⟩ := hit; Nat.ne_of_gt (Heap.lt_size x)
  rcases he with ⟨old, he⟩ | ⟨old, T, f, oT, he, hT, r1, r2, r3⟩
  · refine wpAny_pyNext_enum_item he hit hl ex hei fun h' ho hit' hT hsz hk => ?_
    exact hQ h' (s.toks + 1) ⟨hit', hl.at fun o x => hk l o hle hli x, .inr ⟨_, s.heap.objs.size, false, _, (by rw [ec]; exact ho), hT, Nat.ne_of_gt (Heap.lt_size he), nit, Nat.ne_of_gt hS⟩⟩ ⟨_, hT⟩ hk
  · refine wpAny_pyNext_enum_item_held he hT r1 r2 hit hl ex hei fun h' ho hit' hT' hsz hk => ?_
    exact hQ h' (s.toks + 1) ⟨hit', hl.at fun o x => hk l o hle hli x, .inr ⟨old, T, true, oT, (by rw [ec]; exact ho), hk _ _ r1 r2 hT, r1, r2, r3⟩⟩ ⟨_, hT'⟩ hk
theorem en_done {e it l S : Addr} {i : Nat} {items : Array Value} {Q : Option Value → Shared → Prop} (hh : A.handled = none) (st : EnSt s.heap e it l S i items) (hge : items.size ≤ i)
    (hQ : ∀ h', Heap.ExtBut it s.heap h' → Q none { s with heap := h' }) : wpAny (model prog w) A (pyNext (.ref e)) Q E s := by
  obtain ⟨hit, hl, he⟩ := st
  have hx : items[i]? = none := Array.getElem?_eq_none hge
  rcases he with ⟨old, he⟩ | ⟨old, T, f, oT, he, hT, r1, r2, r3⟩
  · exact wpAny_pyNext_enum_end hh he hit hl hx hQ
  · exact wpAny_pyNext_enum_end_held hh he hit hl hx hQ
end
section
variable {prog : Program} {w : World} {A : Around} {s : Shared} {R : Result → Shared → Prop} {items : Array Value}
theorem en_loop {S e it l : Addr} (hh : A.handled = none) (heS : e < S) (hiS : it < S) (hlS : l ≠ S) (hei : e ≠ it) (hle : l ≠ e) (hli : l ≠ it) (hn : items.size ≤ sizeLine) (res : Value) {h₁ : Heap}
    (hR : ∀ h' tk acc c as, (∀ b o, b ≠ S → b ≠ e → b ≠ it → h₁.get? b = some o → h'.get? b = some o) → h'.get? S = some { cls := .type "list", dict := none, data := .seq acc c, slots := #[] } → as.length = items.size → EnG items S h' as →
      acc.toList = as.map Value.ref → R (.ok (.ret res)) { s with heap := h', toks := tk }) :
    ∀ (k i : Nat) (h : Heap) (tk c : Nat) (acc : Array Value) (as : List Addr), items.size - i = k → i ≤ items.size → EnSt h e it l S i items → (∀ b o, b ≠ S → b ≠ e → b ≠ it → h₁.get? b = some o → h.get? b = some o) →
      h.get? S = some { cls := .type "list", dict := none, data := .seq acc c, slots := #[] } → acc.toList = as.map Value.ref → as.length = i → EnG items S h as →
      codeAny (model prog w) A (.builtin "list.extend.loop" ⟨[.ref S, .ref e, res], []⟩) R { s with heap := h, toks := tk } := by
  have hne : S ≠ e := Nat.ne_of_gt heS
  have hni : S ≠ it := Nat.ne_of_gt hiS
  intro k
  induction k with
  | zero =>
    intro i h tk c acc as hk hi hst hkeep hS hacc hal hG
    refine codeAny_builtin PySem.F.entry_extend_loop ?_
    rw [Around.under_plainId PySem.F.plain_extend_loop _]
    show wpAny _ A.in1 (pyNext (.ref e) >>= _) _ _ _
    refine wpAny_bind (en_done (s := { s with heap := h, toks := tk }) (A := A.in1) hh hst (by omega) fun h' he => ?_)
    refine wpAny_pure (hR h' tk acc c as (fun b o h1 h2 h3 x => he b o h3 (hkeep b o h1 h2 h3 x)) (he S _ hni hS) (by omega) ⟨hG.rise, hG.above, fun j a hj => ?_⟩ hacc)
    obtain ⟨hj', tk', e3⟩ := hG.pairs j a hj
    exact ⟨hj', tk', he a _ (Nat.ne_of_gt (Nat.lt_trans hiS (hG.above a (List.mem_of_getElem? hj)))) e3⟩
  | succ k ih =>
    intro i h tk c acc as hk hi hst hkeep hS hacc hal hG
    have hlt : i < items.size := by omega
    have hsz : acc.size = i := by rw [← Array.length_toList, hacc, List.length_map, hal]
    refine codeAny_builtin PySem.F.entry_extend_loop ?_
    rw [Around.under_plainId PySem.F.plain_extend_loop _]
    show wpAny _ A.in1 (pyNext (.ref e) >>= _) _ _ _
    refine wpAny_bind (en_item (s := { s with heap := h, toks := tk }) hst (Heap.lt_size hS) hei hle hli hlt fun h' tk' hst' ht hkp => ?_)
    dsimp only at ht hkp ⊢
    have hS' := hkp S _ hne hni hS
    have up : ∀ b o, b ≠ S → h'.get? b = some o → (h'.update S (Obj.mapSeq (·.push (Value.ref h.objs.size)))).get? b = some o := fun b o hb x => (Heap.get?_update_other _ _ (Ne.symm hb)).trans x
    have hSl : S < h.objs.size := Heap.lt_size hS
    show wpAny _ A.in1 (updateSeq S (·.push (Value.ref h.objs.size)) >>= _) _ _ _
    refine wpAny_bind ?_
    refine wpAny_updateSeq hS' rfl (wpAny_pure ⟨plainId_quiet PySem.F.plain_extend_loop _, ih (i + 1) _ tk' _ (acc.push (Value.ref h.objs.size)) (as ++ [h.objs.size]) (by omega) hlt (hst'.keep up (Ne.symm hne) (Ne.symm hni) hlS)
      (fun b o h1 h2 h3 x => up b o h1 (hkp b o h2 h3 (hkeep b o h1 h2 h3 x))) (Heap.get?_update_self _ hS' rfl) (by rw [Array.toList_push, hacc, List.map_append]; rfl) (by rw [List.length_append, hal]; rfl) ⟨?_, ?_, ?_⟩⟩) (by rw [hsz]; omega) (by show (acc.push (Value.ref h.objs.size)).size ≤ sizeLine + 1; rw [Array.size_push, hsz]; omega)
    · refine List.pairwise_append.mpr ⟨hG.rise, List.pairwise_singleton _ _, fun a ha b hb => ?_⟩
      rw [List.mem_singleton.mp hb]
      exact hG.there ha
    · intro a ha
      rcases List.mem_append.mp ha with ha | ha
      · exact hG.above a ha
      · rw [List.mem_singleton.mp ha]; exact hSl
    · intro j b hj
      rcases Nat.lt_trichotomy j as.length with h1 | h1 | h1
      · rw [List.getElem?_append_left h1] at hj
        obtain ⟨hj', tk2, e3⟩ := hG.pairs j b hj
        have hb := hG.above b (List.mem_of_getElem? hj)
        exact ⟨hj', tk2, up b _ (Nat.ne_of_gt hb) (hkp b _ (Nat.ne_of_gt (Nat.lt_trans heS hb)) (Nat.ne_of_gt (Nat.lt_trans hiS hb)) e3)⟩
      · subst h1
        have hb : h.objs.size = b := by simpa using hj
        subst hb
        obtain ⟨t, ht⟩ := ht
        exact ⟨by omega, t, by subst hal; exact up _ _ (Nat.ne_of_gt hSl) ht⟩
      · have hnone : (as ++ [h.objs.size])[j]? = none := List.getElem?_eq_none (by rw [List.length_append, List.length_singleton]; omega)
        rw [hnone] at hj; cases hj
end
section
variable {prog : Program} {w : World} {A : Around} {E : Value → Shared → Prop} {s : Shared} {e it l : Addr} {items : Array Value}
theorem en_hint (hT : s.TypeIs (.ref e) "enumerate") {Q : Bool → Shared → Prop} (h : Q true s) : wpAny (model prog w) A (Builtin.List.listLengthHint (.ref e)) Q E s := by
  unfold Builtin.List.listLengthHint
  refine wpAny_bind (wpAny_specialOf hT enl_no_len ?_)
  refine wpAny_bind (wpAny_specialOf hT enl_no_hint ?_)
  exact wpAny_pure h
theorem en_extend {R : Result → Shared → Prop} (hh : A.handled = none) {old : Value} (he : IsEnum s.heap e it 0 old) (hit : s.heap.IsListIter it l 0) (hl : s.heap.IsList l items) (hei : e ≠ it) (hle : l ≠ e) (hli : l ≠ it) (S : Addr) (heS : e < S) (hiS : it < S) (hlS : l ≠ S) (res : Value) (c₀ : Nat) (hS : s.heap.get? S = some { cls := .type "list", data := .seq #[] c₀ })
    (hR : ∀ h' tk acc c as, (∀ b o, b ≠ S → b ≠ e → b ≠ it → s.heap.get? b = some o → h'.get? b = some o) → h'.get? S = some { cls := .type "list", dict := none, data := .seq acc c, slots := #[] } → as.length = items.size → EnG items S h' as →
      acc.toList = as.map Value.ref → R (.ok (.ret res)) { s with heap := h', toks := tk }) (hn : items.size ≤ sizeLine) :
    wpAny (model prog w) A.in1 (Builtin.List.listExtendWith (.ref S) (.ref e) res)
      (fun fin s' => match fin with | .done f => R (.ok f) s' | .again c' => c'.quiet = true ∧ codeAny (model prog w) A c' R s') (fun x s' => R (.error x) s') s := by
  have key : ∀ (h : Heap) (c₁ tk : Nat), (∀ b o, b ≠ S → s.heap.get? b = some o → h.get? b = some o) →
      h.get? S = some { cls := .type "list", data := .seq #[] c₁ } → codeAny (model prog w) A (.builtin "list.extend.loop" ⟨[.ref S, .ref e, res], []⟩) R { s with heap := h, toks := tk } := by
    intro h c₁ tk hk hS₁
    refine en_loop (items := items) (s := s) (h₁ := s.heap) hh heS hiS hlS hei hle hli hn res (fun h' tk' acc c as hk' hS' hl hG hacc => hR h' tk' acc c as hk' hS' hl hG hacc)
      items.size 0 h tk c₁ #[] [] (Nat.sub_zero _) (Nat.zero_le _) ⟨hit.at fun o x => hk _ o (Nat.ne_of_lt hiS) x, hl.at fun o x => hk _ o hlS x, .inl ⟨old, hk _ _ (Nat.ne_of_lt heS) he⟩⟩ (fun b o hb _ _ x => hk b o hb x) hS₁ rfl rfl
      ⟨List.Pairwise.nil, (fun _ ha => nomatch ha), (fun j a hj => by simp at hj)⟩
  have hTy : s.TypeIs (.ref e) "enumerate" := ⟨_, he, rfl⟩
  unfold Builtin.List.listExtendWith
  refine wpAny_bind (wpAny_typeOf (T := "enumerate") hTy ?_)
  have h1 : Builtin.List.listSameRef (.ref S) (.ref e) = false := by simp [Builtin.List.listSameRef, Nat.ne_of_gt heS]
  have h2 : (Value.type "enumerate" == Value.type "list") = false := by decide
  have h3 : (Value.type "enumerate" == Value.type "tuple") = false := by decide
  simp only [h1, h2, h3, Bool.or_false, Bool.false_eq_true, if_false]
  refine wpAny_bind (wpAny_pyIter_enum he ?_)
  refine wpAny_bind (wpAny_holding (en_hint hTy ?_))
  simp only [Bool.true_or, if_true]
  refine wpAny_bind (wpAny_rule ?_)
  refine wpAny_bind ?_
  show wpAny _ _ (updateSeq S (·.push .none) >>= fun _ => updateSeq S (·.pop)) _ _ _
  refine wpAny_bind (wpAny_updateSeq hS rfl ?_)
  have hS₂ := Heap.get?_update_self (Obj.mapSeq (·.push Value.none)) hS rfl
  refine wpAny_updateSeq (hz := by seq_fits) hS₂ rfl ?_
  have hS₃ := Heap.get?_update_self (Obj.mapSeq (·.pop)) hS₂ rfl
  refine wpAny_pure ⟨plainId_quiet PySem.F.plain_extend_loop _, key _ _ _ (fun b o hb x => ?_) hS₃⟩
  exact (Heap.get?_update_other _ _ (Ne.symm hb)).trans ((Heap.get?_update_other _ _ (Ne.symm hb)).trans x)
theorem en_init {R : Result → Shared → Prop} (hh : A.handled = none) {old : Value} (he : IsEnum s.heap e it 0 old) (hit : s.heap.IsListIter it l 0) (hl : s.heap.IsList l items) (hei : e ≠ it) (hle : l ≠ e) (hli : l ≠ it) (S : Addr) (heS : e < S) (hiS : it < S) (hlS : l ≠ S) (hS : s.heap.get? S = some { cls := .type "list", data := .seq #[] })
    (hR : ∀ h' tk acc c as, (∀ b o, b ≠ S → b ≠ e → b ≠ it → s.heap.get? b = some o → h'.get? b = some o) → h'.get? S = some { cls := .type "list", dict := none, data := .seq acc c, slots := #[] } → as.length = items.size → EnG items S h' as →
      acc.toList = as.map Value.ref → R (.ok (.ret .none)) { s with heap := h', toks := tk }) (hn : items.size ≤ sizeLine) :
    wpAny (model prog w) A.in1 (Builtin.«list.__init__» ⟨[.ref S, .ref e], []⟩)
      (fun fin s' => match fin with | .done f => R (.ok f) s' | .again c' => c'.quiet = true ∧ codeAny (model prog w) A c' R s') (fun x s' => R (.error x) s') s := by
  show wpAny _ _ (do let old ← Builtin.List.listItems (.ref S); Builtin.List.listUpdate (.ref S) (fun _ => #[]); letGo old.toList.reverse; Builtin.List.listExtendWith (.ref S) (.ref e) .none) _ _ s
  refine wpAny_bind ?_
  unfold Builtin.List.listItems
  refine wpAny_bind (wpAny_seqItems hS rfl (wpAny_pure ?_))
  show wpAny _ _ (updateSeq S (fun _ => #[]) >>= fun _ => letGo (#[] : Array Value).toList.reverse >>= fun _ => Builtin.List.listExtendWith (.ref S) (.ref e) .none) _ _ s
  refine wpAny_bind (wpAny_updateSeq hS rfl ?_)
  have hS₂ := Heap.get?_update_self (Obj.mapSeq (fun _ => (#[] : Array Value))) hS rfl
  have oth : ∀ b o, b ≠ S → s.heap.get? b = some o → (s.heap.update S (Obj.mapSeq (fun _ => (#[] : Array Value)))).get? b = some o :=
    fun b o hb x => (Heap.get?_update_other _ _ (Ne.symm hb)).trans x
  refine wpAny_bind (wpAny_letGo ?_)
  refine en_extend hh (oth _ _ (Nat.ne_of_lt heS) he) (hit.at fun o x => oth _ o (Nat.ne_of_lt hiS) x) (hl.at fun o x => oth _ o hlS x) hei hle hli S heS hiS hlS .none _ hS₂ (fun h' tk acc c as hk hS' hl hG hacc => ?_) hn
  exact hR h' tk acc c as (fun b o h1 h2 h3 x => hk b o h1 h2 h3 (oth b o h1 x)) hS' hl hG hacc
theorem en_call {Q : Value → Shared → Prop} (hh : A.handled = none) {old : Value} (he : IsEnum s.heap e it 0 old) (hit : s.heap.IsListIter it l 0) (hl : s.heap.IsList l items) (hei : e ≠ it) (hle : l ≠ e) (hli : l ≠ it) (hn : items.size ≤ sizeLine)
    (hQ : ∀ h' tk acc c as, (∀ b o, b ≠ e → b ≠ it → s.heap.get? b = some o → h'.get? b = some o) → h'.get? s.heap.objs.size = some { cls := .type "list", dict := none, data := .seq acc c, slots := #[] } → as.length = items.size → EnG items s.heap.objs.size h' as →
      acc.toList = as.map Value.ref → Q (.ref s.heap.objs.size) { s with heap := h', toks := tk }) :
    wpAny (model prog w) A (call (.type "list") [.ref e]) Q E s := by
  refine callType_codes (Q₁ := fun obj s₁ => obj = .ref s.heap.objs.size ∧ s₁ = { s with heap := s.heap.push { cls := .type "list", data := .seq #[] } }) PySem.F.called_list (PySem.F.typeCall_list_1 _) PySem.F.entry_list_init
    (code_list_new _ ⟨rfl, rfl⟩) fun obj s₁ h₁ => ?_
  obtain ⟨rfl, rfl⟩ := h₁
  have hS : (s.heap.push { cls := .type "list", data := .seq #[] }).get? s.heap.objs.size = some { cls := .type "list", data := .seq #[] } := Heap.get?_push_size _ rfl
  have h1 : e < s.heap.objs.size := Heap.lt_size he
  have h2 : it < s.heap.objs.size := let ⟨_, ho, _⟩ := hit; Heap.lt_size ho
  have h3 : l < s.heap.objs.size := let ⟨_, ho, _⟩ := hl; Heap.lt_size ho
  refine ⟨⟨_, hS, rfl⟩, PySem.F.args_list_init_2 _ _, en_init (A := A.in1) hh (Heap.get?_push_of_some _ he) (hit.at fun o x => Heap.get?_push_of_some _ x) (hl.at fun o x => Heap.get?_push_of_some _ x) hei hle hli _ h1 h2 (Nat.ne_of_lt h3) hS (fun h' tk acc c as hk hS' hl hG hacc => ?_) hn⟩
  exact ⟨rfl, hQ h' tk acc c as (fun b o x1 x2 x => hk b o (Nat.ne_of_lt (Heap.lt_size x)) x1 x2 (Heap.get?_push_of_some _ x)) hS' hl hG hacc⟩
end
end PySem.W
namespace Px
open PySem L2 PySem.W
/-- pairs (j, x) laid at as -/
def layT (H : Hp) : Nat → List Addr → List V → Hp
  | j, a :: as, x :: xs => upd (layT H (j + 1) as xs) a (.tup [.int (j : Int), x])
  | _, _, _ => H
theorem layT_off {H : Hp} {b : Addr} : ∀ {as : List Addr} {xs : List V} {j : Nat}, b ∉ as → layT H j as xs b = H b
  | [], _, _, _ => rfl
  | _ :: _, [], _, _ => rfl
  | a :: as, x :: xs, j, h => by
    rw [List.mem_cons, not_or] at h
    rw [layT, upd_ne h.1, layT_off h.2]
theorem layT_at {H : Hp} {b : Addr} {x : V} : ∀ {as : List Addr} {xs : List V} {j i : Nat}, as.Nodup → as[i]? = some b → xs[i]? = some x → layT H j as xs b = some (.tup [.int ((j + i : Nat) : Int), x])
  | [], _, _, i, _, h, _ => by simp at h
  | _ :: _, [], _, i, _, _, h => by simp at h
  | a :: as, y :: xs, j, 0, _, h1, h2 => by
    simp at h1 h2
    subst h1 h2
    rw [layT, upd_same]; rfl
  | a :: as, y :: xs, j, i + 1, nd, h1, h2 => by
    simp at h1 h2
    have hb : b ≠ a := fun z => (List.nodup_cons.mp nd).1 (z ▸ List.mem_of_getElem? h1)
    rw [layT, upd_ne hb, layT_at (List.nodup_cons.mp nd).2 h1 h2]
    rw [show j + 1 + i = j + (i + 1) by omega]
theorem layT_tup {H : Hp} {b : Addr} {o : HO} : ∀ {as : List Addr} {xs : List V} {j : Nat}, layT H j as xs b = some o → H b = some o ∨ ∃ i x, as[i]? = some b ∧ xs[i]? = some x ∧ o = .tup [.int ((j + i : Nat) : Int), x]
  | [], _, _, h => .inl h
  | _ :: _, [], _, h => .inl h
  | a :: as, y :: xs, j, h => by
    by_cases hb : b = a
    · subst hb
      rw [layT, upd_same] at h
      cases h
      exact .inr ⟨0, y, rfl, rfl, rfl⟩
    · rw [layT, upd_ne hb] at h
      rcases layT_tup h with h | ⟨i, x, h1, h2, h3⟩
      · exact .inl h
      · exact .inr ⟨i + 1, x, by simpa using h1, by simpa using h2, by rw [h3, show j + 1 + i = j + (i + 1) by omega]⟩
/-- list(enumerate(e)) -/
def tEnumL (K : PySem.W.Frag) (ta : TA) : TE := fun σ H Q => ta σ H fun vs H1 => ∃ a xs, vs = [.ref a] ∧ SqL K H1 a xs ∧
  ∀ l (as : List Addr), H1 l = none → l ∉ as → as.Nodup → (∀ b ∈ as, H1 b = none) → as.length = xs.length → Q (.ref l) (upd (layT H1 0 as xs) l (.lst (as.map V.ref)))
theorem vals_refs : ∀ {as : List Addr}, Vals (as.map V.ref) (as.map Value.ref)
  | [] => .nil
  | _ :: _ => .cons rfl vals_refs
theorem pe_listEnum {X : Cx} {e : Expr} {ta : TA} {p1 p2 pos1 pos2 : Pos} (hg1 : Gl X "list") (hm1 : X.mg "list" = none) (hg2 : Gl X "enumerate") (hm2 : X.mg "enumerate" = none) (hc : X.calm = true) (ha : PA X [e] ta) (hs : starEach [e] X.env = [(false, eval e X.env)] := by rfl)
    (hs2 : starEach [.Call (.Name "enumerate" p2) [e] [] pos2] X.env = [(false, eval (.Call (.Name "enumerate" p2) [e] [] pos2) X.env)] := by rfl) :
    PE X (.Call (.Name "list" p1) [.Call (.Name "enumerate" p2) [e] [] pos2] [] pos1) (tEnumL X.K ta) := by
  refine ⟨fun pins s σ H Q I h => ?_⟩
  refine wpAny_Call_Name_kw (ld_blt I hg1 hm1 (show bootBuiltins "list" = some (.type "list") by decide +kernel) ?_ (by decide) (by decide))
  refine PyProof.Rows.callWith_type1 ?_ hs2 rfl
  rw [hs2]
  refine Calls.spliced_cons (thn (Q := fun v s1 => wpAny (model X.prog X.w) X.A (call (.type "list") [v]) (EP X pins σ Q) X.xe s1) ?_ fun v s1 h1 => Calls.spliced_nil h1)
  refine wpAny_Call_Name_kw (ld_blt I hg2 hm2 (show bootBuiltins "enumerate" = some (.type "enumerate") by decide +kernel) ?_ (by decide) (by decide))
  refine PyProof.Rows.callWith_type1 (thn (ha.run pos2 pins s σ H _ I h) fun us s1 ⟨vs, H1, I1, r1, q1⟩ => ?_) hs rfl
  obtain ⟨a, xs, ex, hq, q⟩ := q1
  subst ex
  cases r1 with
  | cons r rr =>
    cases rr
    cases r
    obtain ⟨its, rv, p', hz⟩ := I1.list hq
    refine call_enumerate_list p'.isList fun h' he hit hsz hk => ?_
    have hal : a < s1.heap.objs.size := let ⟨_, ho, _⟩ := p'.isList; Heap.lt_size ho
    refine en_call (s := { s1 with heap := h' }) (items := its.toArray) (I1.ok.hd hc) he hit (p'.isList.at fun o x => hk _ o x) (Nat.succ_ne_self _) (Nat.ne_of_lt (Nat.lt_succ_of_lt hal)) (Nat.ne_of_lt hal) (by rw [List.size_toArray, ← rv.length]; exact hz) fun h2 tk acc c as hk2 hS hlen hG hacc => ?_
    have hlo : ∀ b ∈ as, s1.heap.objs.size ≤ b := fun b hb => by
      have h1 := hG.above b hb
      have h1 : h'.objs.size < b := h1
      rw [hsz] at h1
      exact Nat.le_of_lt (Nat.lt_trans (Nat.lt_add_of_pos_right (by decide)) h1)
    have hS' : h2.get? (s1.heap.objs.size + 2) = some { cls := .type "list", dict := none, data := .seq acc c, slots := #[] } := by rw [← hsz]; exact hS
    have hnd : as.Nodup := hG.rise.imp fun h => Nat.ne_of_lt h
    have hla : h'.objs.size ∉ as := fun z => Nat.lt_irrefl _ (hG.above _ z)
    have hlen2 : as.length = xs.length := by rw [hlen, List.size_toArray, rv.length]
    have hkeep : ∀ b u, s1.heap.get? b = some u → h2.get? b = some u := fun b u x => hk2 b u (Nat.ne_of_lt (Nat.lt_succ_of_lt (Heap.lt_size x))) (Nat.ne_of_lt (Heap.lt_size x)) (hk b u x)
    have hln : H1 h'.objs.size = none := I1.hok.fresh (by rw [hsz]; exact Nat.le_add_right _ _)
    have han : ∀ b ∈ as, H1 b = none := fun b hb => I1.hok.fresh (hlo b hb)
    have old : ∀ b o, H1 b = some o → (upd (layT H1 0 as xs) h'.objs.size (.lst (as.map V.ref))) b = some o := fun b o x => by
      rw [upd_ne (ne_of_none x hln), layT_off (fun z => by rw [han b z] at x; cases x)]
      exact x
    have u : Un X.fs [] H1 (upd (layT H1 0 as xs) h'.objs.size (.lst (as.map V.ref))) s1.heap h2 := {
      keep := fun b u q _ _ _ => hkeep b u q
      slot := fun b u q _ _ _ => ⟨u.slots, hkeep b u q⟩
      free := fun b u q n _ => by
        rw [upd_ne (Nat.ne_of_lt (Nat.lt_of_lt_of_le (Heap.lt_size q) (by rw [hsz]; exact Nat.le_add_right _ _))), layT_off (fun z => Nat.lt_irrefl _ (Nat.lt_of_lt_of_le (Heap.lt_size q) (hlo b z)))]
        exact n
      there := fun b u q _ => ⟨u, hkeep b u q⟩
      tups := fun b xs q => old b _ q
      frzs := fun b u xs q => old b _ q
      tbls := fun b ps q => ⟨#[], by rw [old b _ q]; simp⟩ }
    have hok : HOk X.prog X.w (upd (layT H1 0 as xs) h'.objs.size (.lst (as.map V.ref))) h2 := fun b o x => by
      by_cases hb : b = h'.objs.size
      · subst hb
        rw [upd_same] at x
        cases x
        refine ⟨by rw [List.length_map, hlen2]; exact hz, as.map Value.ref, c, vals_refs, ?_⟩
        rw [← hacc]
        exact hS
      · rw [upd_ne hb] at x
        rcases layT_tup x with x | ⟨i, y, h1, h2', rfl⟩
        · exact (I1.hok b o x).stay (fun c v _ q => hkeep c v q) (fun c q => old c _ q) fun c xs q => old c _ q
        · obtain ⟨hj, t, ht⟩ := hG.pairs i b h1
          obtain ⟨w, hw, rw'⟩ := rv.get h2'
          have hwi : its.toArray[i] = w := by
            have := Array.getElem?_eq_getElem hj
            have h3 : its.toArray[i]? = some w := by simpa using hw
            rw [this] at h3
            exact Option.some.inj h3
          rw [hwi] at ht
          rw [Nat.zero_add]
          exact ⟨by show 2 ≤ sizeLine; decide, [.int (i : Nat) t, w], .cons ⟨_, rfl⟩ (.cons rw' .nil), ⟨_, ht, rfl, _, rfl⟩⟩
    exact ⟨.ref h'.objs.size, _, I1.un (t' := tk) u hok, rfl, q _ as hln hla hnd han hlen2⟩
end Px
set_option Elab.async false
set_option linter.all false
set_option maxRecDepth 100000
set_option maxHeartbeats 4000000
namespace Px
open PySem L2
section
variable {K : PySem.W.Frag} {σ : L2.St} {H : Hp} {ta tb tc te tl : TE} {t u : TT} {x y z v : V} {D : Ends} {s1 s2 s3 tu : TS} {n : Nat} {i j k : Int} {P R : Prop} {Q : VK}
theorem w_c (h : Q v H) : tC v σ H Q := h
theorem w_v' (e : σ[n]? = some (some v)) (h : Q v H) : tVar n σ H Q := ⟨v, e, h⟩
theorem r_add (h : Q (.int (i + j)) H) : oAdd (.int i) (.int j) H Q := ⟨_, _, rfl, rfl, h⟩
theorem r_sub (h : Q (.int (i - j)) H) : oSub (.int i) (.int j) H Q := ⟨_, _, rfl, rfl, h⟩
theorem r_mul (c : CMulW i j) (h : Q (.int (i * j)) H) : oMul (.int i) (.int j) H Q := ⟨_, _, rfl, rfl, c, h⟩
theorem r_div (c : CDivW i j) (h : Q (.int (i / j)) H) : oDiv (.int i) (.int j) H Q := ⟨_, _, rfl, rfl, c, h⟩
theorem r_mod (c : 0 < j) (h : Q (.int (i % j)) H) : oMod (.int i) (.int j) H Q := ⟨_, _, rfl, rfl, c, h⟩
theorem r_pow (c : CPow i j) (h : Q (.int (i ^ j.toNat)) H) : oPow (.int i) (.int j) H Q := ⟨_, _, rfl, rfl, c, h⟩
theorem r_lt (h : Q (.bl (decide (i < j))) H) : oLt (.int i) (.int j) H Q := ⟨_, _, rfl, rfl, h⟩
theorem r_le (h : Q (.bl (decide (i ≤ j))) H) : oLe (.int i) (.int j) H Q := ⟨_, _, rfl, rfl, h⟩
theorem r_gt (h : Q (.bl (decide (j < i))) H) : oGt (.int i) (.int j) H Q := ⟨_, _, rfl, rfl, h⟩
theorem r_ge (h : Q (.bl (decide (j ≤ i))) H) : oGe (.int i) (.int j) H Q := ⟨_, _, rfl, rfl, h⟩
theorem r_min (h : Q (.int (if j < i then j else i)) H) : cMin [.int i, .int j] H Q := ⟨_, _, rfl, h⟩
theorem r_max (h : Q (.int (if j > i then j else i)) H) : cMax [.int i, .int j] H Q := ⟨_, _, rfl, h⟩
theorem r_len {p : Addr} {xs : List V} (s : SqL K H p xs) (h : Q (.int xs.length) H) : cLen K [.ref p] H Q := ⟨p, xs, rfl, .inl s, h⟩
theorem r_intB {b : Bool} (h : Q (.int (if b then 1 else 0)) H) : cInt [.bl b] H Q := .inr ⟨b, rfl, h⟩
theorem r_ix {p : Addr} {xs : List V} (s : SqL K H p xs) (e : atI xs i = some v) (h : Q v H) : rIxL K (.ref p) (.int i) H Q := ⟨p, xs, i, v, rfl, rfl, s, e, h⟩
theorem w_sl {r : TO → TO → TE} {tl th : TO} {a : Addr} {xs : List V} {lo hi : Option Int} (h : Ev te σ H (.ref a)) (h1 : EvO tl σ H lo) (h2 : EvO th σ H hi) (hs : SqL K H a xs) (k : ∀ p, H p = none → Q (.ref p) (upd H p (.lst (cutV xs lo hi)))) : tSl (rSlL K) te tl th σ H Q := el_sl h h1 h2 hs Q k
theorem q_retN {s : TS} (h : s D σ H) : s D σ H := h
theorem q_asg {g : TG} (h : te σ H fun x H1 => g x σ H1 fun σ2 H2 => s2 D σ2 H2) : tSeq (tAsg te g) s2 D σ H := h
theorem s_asg {g : TG} (h : te σ H fun x H1 => g x σ H1 D.nx) : tAsg te g D σ H := h
theorem w_rep1 {k : Int} {b : Bool} {a : Addr} (ha : H a = some (.lst [x])) (h : ∀ p, H p = none → Q (.ref p) (upd H p (.lst (if b then [x] else [])))) : rRep (.ref a) (.int (if b then 1 else 0)) H Q := by
  refine ⟨a, _, [x], rfl, rfl, ha, ?_, ?_, ?_, fun p hp => ?_⟩
  · cases b <;> simp
  · cases b <;> simp
  · cases b <;> simp <;> decide
  · have := h p hp
    cases b <;> simpa using this
/-- [te for i in range(k)], te may change things -/
theorem w_lcR {ta : TA} {k : Int} {vs : List Nat} (h : EvA ta σ H [.int k]) (hk : 0 ≤ k ∧ k < 2 ^ 60) (Pv : Addr → Nat → Hp → Prop) (h0 : ∀ D, H D = none → Pv D 0 (upd H D (.lst [])))
    (hw : ∀ x, wipe ((wipe σ vs).set n (some x)) vs = wipe σ vs) (hs : ∀ D (i : Nat) H', H D = none → (i : Int) < k → Pv D i H' → te ((wipe σ vs).set n (some (.int (i : Int)))) H' fun y H4 => ∃ acc, H4 D = some (.lst acc) ∧ acc.length < sizeLine ∧ Pv D (i + 1) (upd H4 D (.lst (acc ++ [y]))))
    (hd : ∀ D H', H D = none → Pv D k.toNat H' → Q (.ref D) H') : tLc (iRng1 ta) (gName n) tYes te vs σ H Q := h _ ⟨k, rfl, by omega, by omega, fun D hD =>
  lc_range (lo := 0) (n := k.toNat) (Pv D) (h0 D hD) (fun i H' hi hv => by
    show wipe ((wipe σ vs).set n (some (.int (0 + (i : Int))))) vs = wipe σ vs ∧ _
    rw [Int.zero_add]
    exact ⟨hw _, et_yes _ (iteT (hs D i H' hD (by omega) hv))⟩) (fun H' hv => hd D H' hD hv)⟩
/-- [te for x in xs if tt], te may change things -/
theorem w_lcL {a : Addr} {xs : List V} {vs : List Nat} (h : Ev tl σ H (.ref a)) (hx : SqL K H a xs) (Pv : Addr → Nat → Hp → Prop) (h0 : ∀ D, H D = none → Pv D 0 (upd H D (.lst []))) (hl : ∀ D i H', H D = none → Pv D i H' → SqL K H' a xs)
    (hw : ∀ x, wipe ((wipe σ vs).set n (some x)) vs = wipe σ vs) (hs : ∀ D (i : Nat) x H', H D = none → xs[i]? = some x → Pv D i H' → t ((wipe σ vs).set n (some x)) H' fun b H3 => if b = true then te ((wipe σ vs).set n (some x)) H3 fun y H4 => ∃ acc, H4 D = some (.lst acc) ∧ acc.length < sizeLine ∧ Pv D (i + 1) (upd H4 D (.lst (acc ++ [y]))) else Pv D (i + 1) H3)
    (hd : ∀ D H', H D = none → Pv D xs.length H' → Q (.ref D) H') : tLc (iList K tl) (gName n) t te vs σ H Q := h _ ⟨a, rfl, ⟨xs, hx⟩, fun D hD =>
  lc_list (xs := xs) (Pv D) (h0 D hD) (fun i H' _ hv => hl D i H' hD hv) (fun i x H' hi hv => ⟨hw x, hs D i x H' hD hi hv⟩) (fun H' hv => hd D H' hD hv)⟩
theorem szl {m : Nat} (h : m < 16000000) : m < sizeLine := Nat.lt_of_lt_of_le h (by decide)
/-- an if without an else: I holds behind it on both ways -/
theorem q_whenI (I : L2.St → Hp → Prop) (h : EvP t σ H P) (h1 : P → ∀ N : L2.St → Hp → Prop, (∀ σ' H', I σ' H' → N σ' H') → s1 { D with nx := N } σ H) (h2 : ¬ P → I σ H) (k : ∀ σ' H', I σ' H' → s3 D σ' H') : tSeq (tIfS t s1 tNext) s3 D σ H :=
  q_whenP h (fun p => h1 p _ k) fun p => k _ _ (h2 p)
theorem s_ifW (h : t σ H fun b H1 => if b = true then s1 D σ H1 else s2 D σ H1) : tIfS t s1 s2 D σ H := h
theorem q_ifW (h : t σ H fun b H1 => if b = true then s1 { D with nx := s3 D } σ H1 else s2 { D with nx := s3 D } σ H1) : tSeq (tIfS t s1 s2) s3 D σ H := h
theorem w_and {Q : Bool → Hp → Prop} (h : t σ H fun b H1 => if b = true then u σ H1 Q else Q false H1) : tAnd t u σ H Q := h
theorem w_or {Q : Bool → Hp → Prop} (h : t σ H fun b H1 => if b = true then Q true H1 else u σ H1 Q) : tOr t u σ H Q := h
theorem w_not {Q : Bool → Hp → Prop} (h : t σ H fun b H1 => Q (!b) H1) : tNot t σ H Q := h
theorem w_tst {Q : Bool → Hp → Prop} (h : te σ H fun v H1 => ∃ b, v = .bl b ∧ Q b H1) : tTest te σ H Q := h
theorem w_evT {b : Bool} {Q : Bool → Hp → Prop} (h : EvT t σ H b) (q : Q b H) : t σ H Q := h Q q
theorem by_dec {P A B : Prop} [Decidable P] (h1 : P → A) (h2 : ¬ P → B) : if decide P = true then A else B := by
  by_cases h : P
  · rw [decide_eq_true h]; exact iteT (h1 h)
  · rw [decide_eq_false h]; exact iteF (h2 h)
theorem q_par {i j : Nat} {ta : TA} {v w : V} (h : EvA ta σ H [v, w]) (k : s2 D ((σ.set i (some v)).set j (some w)) H) : tSeq (tPar i j ta) s2 D σ H := h _ ⟨v, w, rfl, k⟩
theorem q_parW {i j : Nat} {ta : TA} (h : ta σ H fun vs H1 => ∃ v w, vs = [v, w] ∧ s2 D ((σ.set i (some v)).set j (some w)) H1) : tSeq (tPar i j ta) s2 D σ H := h
theorem w_appR {a : Addr} {xs : List V} {t : TA} (ha : Ev ta σ H (.ref a)) (hx : SqL K H a xs) (ht : t σ H fun vs H2 => rAppend (.ref a) vs H2 Q) : tBM K "list" rAppend ta t σ H Q := ha _ ⟨.inl ⟨rfl, _, hx⟩, ht⟩
theorem w_revR {a : Addr} {xs : List V} (ha : Ev ta σ H (.ref a)) (hx : SqL K H a xs) (h : rReverse (.ref a) [] H Q) : tBM0 K "list" rReverse ta σ H Q := ha _ ⟨.inl ⟨rfl, _, hx⟩, h⟩
theorem w_andV (h : ta σ H fun x H1 => ∃ c, x = .bl c ∧ if c = true then tb σ H1 Q else Q (.bl false) H1) : tAndV ta tb σ H Q := h
theorem w_orV (h : ta σ H fun x H1 => ∃ c, x = .bl c ∧ if c = true then Q (.bl true) H1 else tb σ H1 Q) : tOrV ta tb σ H Q := h
end
end Px
set_option Elab.async false
set_option linter.all false
set_option maxRecDepth 100000
set_option maxHeartbeats 4000000
namespace Px
open PySem L2
/-! ### own classes -/
def clsBody (s : Stmt) : List Stmt := match s with
  | .ClassDef _ _ _ b _ _ _ _ _ _ _ => b
  | _ => []
abbrev FnQ (K : PySem.W.Frag) (x qual : Str) (st : Stmt) (f : Addr) (fd : FuncData) : Prop := FunD K x qual (defArgs st) (defBody st) (defScope st) [] [] f fd
/-- a method of the class at C -/
structure Mfn (P : Program) (w : World) (K : PySem.W.Frag) (mg : Str → Option Value) (base : Heap) (C : Addr) (m : Str) (k : Nat) (ps : List Str) (sp : Sp) : Prop where
  ex : ∃ (f : Addr) (fd : FuncData), FnOk P w K mg base CX0 k f fd ps sp ∧ Meth K C m f ∧ Binds K fd ps []
structure Ifn (P : Program) (w : World) (K : PySem.W.Frag) (mg : Str → Option Value) (base : Heap) (C : Addr) (k : Nat) (ps : List Str) (sp : Sp) : Prop where
  ex : ∃ (f : Addr) (fd : FuncData), FnOk P w K mg base CX0 k f fd ps sp ∧ L2.Mk K C f ∧ Binds K fd ps []
section
variable {X : Cx} {C : Addr} {m x : Str} {k : Nat} {ps : List Str} {sp : Sp} {o e : Expr} {es : List Expr} {ta : TE} {t : TA} {apos pos p : Pos}
theorem pe_mth {pl : Sem Bool} (F : Mfn X.prog X.w X.K X.mg X.base C m k ps sp) (c : Cls X.K C) (hr : Room k X.A) (he : PE X o ta) (ha : PA X (e :: es) t)
    (hst : starEach (e :: es) X.env = (false, eval e X.env) :: starEach es X.env := by rfl) (hpl : (backTo pos (starEach es X.env)).any (·.1) = false := by rfl)
    (ht : eval (.Call (.Attribute o m apos) (e :: es) [] pos) X.env = (do
      let ov ← eval o X.env
      standAt apos.atName
      let (f, first) ← holding [ov] (getMethod ov m pl)
      callWith pos f first (backTo pos (starEach (e :: es) X.env)) (backToKw pos (keywordEach [] X.env))) := by rfl) :
    PE X (.Call (.Attribute o m apos) (e :: es) [] pos) (tMeth C m sp [] E0 ta t) := by
  obtain ⟨f, fd, F1, M, b⟩ := F.ex
  exact pe_meth he c M F1 hr b .nil pass0 ha hst hpl ht
theorem pe_mth0 {pl : Sem Bool} (F : Mfn X.prog X.w X.K X.mg X.base C m k ps sp) (c : Cls X.K C) (hr : Room k X.A) (he : PE X o ta)
    (ht : eval (.Call (.Attribute o m apos) [] [] pos) X.env = (do
      let ov ← eval o X.env
      standAt apos.atName
      let (f, first) ← holding [ov] (getMethod ov m pl)
      callWith pos f first (backTo pos (starEach [] X.env)) (backToKw pos (keywordEach [] X.env))) := by rfl) :
    PE X (.Call (.Attribute o m apos) [] [] pos) (tMeth C m sp [] E0 ta tNil) := by
  obtain ⟨f, fd, F1, M, b⟩ := F.ex
  exact pe_meth0 he c M F1 hr b .nil pass0 ht
theorem pe_mk (F : Ifn X.prog X.w X.K X.mg X.base C k ps sp) (hr : Room (k + 1) X.A) (hm : X.mg x = some (.ref C)) (ha : PA X (e :: es) t) (hg : Gl X x := by rfl)
    (hdb : (x == ("__debug__" : Str)) = false := by decide) (he : starEach (e :: es) X.env = (false, eval e X.env) :: starEach es X.env := by rfl) (hpl : (backTo pos (starEach es X.env)).any (·.1) = false := by rfl) :
    PE X (.Call (.Name x p) (e :: es) [] pos) (tMake C sp [] E0 t) := by
  obtain ⟨f, fd, F1, M, b⟩ := F.ex
  exact pe_make M F1 hr hg hm b .nil pass0 ha hdb he hpl
end
section
variable {K : PySem.W.Frag} {σ : L2.St} {B H H' : Hp} {L : List (Addr × List V)} {ta te : TE} {t : TA} {x C dx : Addr} {fs fs' : List (Str × V)} {f m : Str} {v : V} {Q : VK} {D : Ends} {s2 : TS}
theorem ev_fld (c : Cls K C) (n : NoAttr K C f) (h : Ev ta σ H (.ref x)) (e : H x = some (.ins C dx fs)) (l : fs.lookup f = some v) : Ev (tFld K ta f) σ H v := fun Q q => h _ ⟨x, C, dx, fs, v, rfl, e, c, n, l, q⟩
theorem q_fld (c : Cls K C) (n : NoAttr K C f) (hv : Ev te σ H v) (h : Ev ta σ H (.ref x)) (e : H x = some (.ins C dx fs)) (hl : fs.length < 1000) (k : s2 D σ (upd H x (.ins C dx (putF f v fs)))) : tSeq (sFld K ta te f) s2 D σ H := hv _ (h _ ⟨x, C, dx, fs, rfl, e, c, n, hl, k⟩)
theorem s_fld (c : Cls K C) (n : NoAttr K C f) (hv : Ev te σ H v) (h : Ev ta σ H (.ref x)) (e : H x = some (.ins C dx fs)) (hl : fs.length < 1000) (k : D.nx σ (upd H x (.ins C dx (putF f v fs)))) : sFld K ta te f D σ H := hv _ (h _ ⟨x, C, dx, fs, rfl, e, c, n, hl, k⟩)
theorem q_fldL {xs : List V} (c : Cls K C) (n : NoAttr K C f) (hv : EvL te σ H xs) (h : ∀ p, H p = none → Ev ta σ (upd H p (.lst xs)) (.ref x)) (e : H x = some (.ins C dx fs)) (hl : fs.length < 1000) (k : ∀ p, H p = none → s2 D σ (upd (upd H p (.lst xs)) x (.ins C dx (putF f (.ref p) fs)))) : tSeq (sFld K ta te f) s2 D σ H :=
  hv _ fun p hp => h p hp _ ⟨x, C, dx, fs, rfl, by rw [upd_ne (ne_of_none e hp)]; exact e, c, n, hl, k p hp⟩
theorem w_mth {sp : Sp} (h : Ev ta σ H (.ref x)) (e : H x = some (.ins C dx fs)) (l : fs.lookup m = none) (k : t σ H fun vs H2 => sp (.ref x :: (vs ++ [])) H2 Q E0) : tMeth C m sp [] E0 ta t σ H Q := h _ ⟨x, dx, fs, rfl, e, l, k⟩
theorem w_mk {sp : Sp} (k : t σ H fun vs H1 => ∀ x dx, H1 x = none → H1 dx = none → dx ≠ x → sp (.ref x :: (vs ++ [])) (upd (upd H1 dx (.own x)) x (.ins C dx [])) (fun v H2 => v = .non ∧ Q (.ref x) H2) E0) : tMake C sp [] E0 t σ H Q := k
/-- an instance of the base is changed -/
theorem Own.fput (o : Own B L H) (h : B x = some (.ins C dx fs)) : Own (upd B x (.ins C dx fs')) L (upd H x (.ins C dx fs')) where
  nod := have := o.nod; inferInstance
  ex := fun b u hb => by
    by_cases e : b = x
    · subst e; rw [upd_same] at hb ⊢; exact hb
    · rw [upd_ne e] at hb ⊢; exact o.ex b u hb
  off := fun q hq => by
    have : q.1 ≠ x := fun e => by have := o.off q hq; rw [e, h] at this; cases this
    rw [upd_ne this]; exact o.off q hq
  dis := o.dis
  has := fun q hq => by
    have : q.1 ≠ x := fun e => by have := o.off q hq; rw [e, h] at this; cases this
    rw [upd_ne this]; exact o.has q hq
/-- anything flat and new is part of the base -/
theorem Own.newB {u : HO} {p : Addr} (o : Own B L H) (hp : H p = none) (n : Nod (upd H p u)) : Own (upd B p u) L (upd H p u) where
  nod := n
  ex := fun b w hb => by
    by_cases e : b = p
    · subst e; rw [upd_same] at hb ⊢; exact hb
    · rw [upd_ne e] at hb ⊢; exact o.ex b w hb
  off := fun q hq => by rw [upd_ne (ne_of_none (o.has q hq) hp)]; exact o.off q hq
  dis := o.dis
  has := fun q hq => by rw [upd_ne (ne_of_none (o.has q hq) hp)]; exact o.has q hq
end
/-! ### what a method leaves -/
theorem fg_ins {H H' : Hp} {x C dx : Addr} {fs fs' : List (Str × V)} [n : Nod H] (hx : H x = some (.ins C dx fs)) (e : ∀ a u, a ≠ x → H a = some u → H' a = some u) (h : H' x = some (.ins C dx fs')) : Fg H H' (upd H x (.ins C dx fs')) where
  sub := fun a o q => by
    by_cases z : a = x
    · subst z; rw [upd_same] at q; rw [h]; exact q
    · rw [upd_ne z] at q; exact e a o z q
  old := fun a o q => by
    by_cases z : a = x
    · subst z; rw [upd_same, h]
    · rw [upd_ne z, q]; exact (e a o z q).symm
  own := fun a y q => e a _ (fun z => by rw [z, hx] at q; cases q) q
  ins := fun a C' dx' fs'' q => by
    by_cases z : a = x
    · subst z; rw [upd_same] at q; cases q; exact ⟨fs, hx⟩
    · rw [upd_ne z] at q; exact ⟨_, q⟩
  frz := fun a o u q => by
    by_cases z : a = x
    · subst z; rw [upd_same] at q; cases q
    · rw [upd_ne z] at q; exact q
  nod := fun a o q => by
    by_cases z : a = x
    · subst z; rw [upd_same] at q; cases q; trivial
    · rw [upd_ne z] at q; exact n.nod a o q
theorem fg_insL {H H' : Hp} {x C dx p : Addr} {fs fs' : List (Str × V)} {xs : List V} [n : Nod H] (hx : H x = some (.ins C dx fs)) (hp : H p = none) (e : ∀ a u, a ≠ x → H a = some u → H' a = some u) (h : H' x = some (.ins C dx fs')) (h2 : H' p = some (.lst xs)) : Fg H H' (upd (upd H p (.lst xs)) x (.ins C dx fs')) := by
  have hxp : x ≠ p := ne_of_none hx hp
  exact {
    sub := fun a o q => by
      by_cases z : a = x
      · subst z; rw [upd_same] at q; rw [h]; exact q
      · rw [upd_ne z] at q
        by_cases y : a = p
        · subst y; rw [upd_same] at q; rw [h2]; exact q
        · rw [upd_ne y] at q; exact e a o z q
    old := fun a o q => by
      by_cases z : a = x
      · subst z; rw [upd_same, h]
      · rw [upd_ne z, upd_ne (ne_of_none q hp), q]; exact (e a o z q).symm
    own := fun a y q => e a _ (fun z => by rw [z, hx] at q; cases q) q
    ins := fun a C' dx' fs'' q => by
      by_cases z : a = x
      · subst z; rw [upd_same] at q; cases q; exact ⟨fs, hx⟩
      · rw [upd_ne z] at q
        by_cases y : a = p
        · subst y; rw [upd_same] at q; cases q
        · rw [upd_ne y] at q; exact ⟨_, q⟩
    frz := fun a o u q => by
      by_cases z : a = x
      · subst z; rw [upd_same] at q; cases q
      · rw [upd_ne z] at q
        by_cases y : a = p
        · subst y; rw [upd_same] at q; cases q
        · rw [upd_ne y] at q; exact q
    nod := fun a o q => by
      by_cases z : a = x
      · subst z; rw [upd_same] at q; cases q; trivial
      · rw [upd_ne z] at q
        by_cases y : a = p
        · subst y; rw [upd_same] at q; cases q; trivial
        · rw [upd_ne y] at q; exact n.nod a o q }
end Px
set_option Elab.async false
set_option linter.all false
set_option maxRecDepth 100000
set_option maxHeartbeats 4000000
namespace Px
open PySem PySem.Spec PyProof.Rows L2
/-! ### exceptions that are kept behind their clause -/
/-- an exception of the own class at D, as a thing of the heap -/
def excH (a D : Addr) : HO := .ext fun h => ∃ oe, PySem.W.InstAt h a oe D none
theorem exc_inst {h : Heap} {a D : Addr} {oe : Obj} (hg : h.get? a = some oe) (hz : Zc (.ref D) none oe) (hf : ∃ vs, oe.data = .fields vs) : PySem.W.InstAt h a oe D none := by
  obtain ⟨vs, hv⟩ := hf
  obtain ⟨oc, od, oda, osl⟩ := oe
  obtain ⟨h1, h2⟩ := hz
  dsimp only at h1 h2 hv
  subst h1 h2 hv
  exact ⟨hg, rfl, rfl, trivial⟩
theorem exc_ok {P : Program} {w : World} {H : Hp} {h : Heap} {a D : Addr} {oe : Obj} (hg : h.get? a = some oe) (hz : Zc (.ref D) none oe) (hf : ∃ vs, oe.data = .fields vs) : ObjOk P w H h a (excH a D) :=
  ⟨⟨oe, exc_inst hg hz hf⟩, ⟨oe, hg⟩, fun h1 h2 ⟨o, i⟩ k => by
    obtain ⟨i1, i2, i3, i4⟩ := i
    refine ⟨o, ⟨k o i1, i2, i3, ?_⟩⟩
    cases hd : o.dict with
    | none => trivial
    | some dx => rw [hd] at i4; exact i4.elim⟩
section
variable {X : Cx} {pins : List (Addr × Obj)} {σ : L2.St} {H : Hp} {s : Shared}
/-- a thing of the heap is tracked from now on -/
theorem Inv.adopt {a : Addr} {u : HO} (I : Inv X pins σ H s) (h0 : X.s_0.heap.get? a = none) (na : H a = none) (nL : a ≠ X.env.locals) (nC : ∀ x c, X.env.cells.lookup x = some c → c ≠ a) (hp : ∀ p ∈ X.pn ++ pins, p.1 ≠ a) (ok : ObjOk X.prog X.w (upd H a u) s.heap a u) : Inv X pins σ (upd H a u) s := by
  have ne : ∀ b o, H b = some o → b ≠ a := fun b o e z => by rw [z, na] at e; cases e
  have up : ∀ b o, H b = some o → upd H a u b = some o := fun b o e => by rw [upd_ne (ne b o e)]; exact e
  refine ⟨I.ok, I.os, I.bare, ⟨I.base.keep, I.base.slot, fun b o e n hx => ?_, I.base.there, fun b xs e => up _ _ (I.base.tups b xs e), fun b o u' e => up _ _ (I.base.frzs b o u' e), fun b ps e => ?_⟩, I.loc, I.cell, ?_, fun x c e => ?_, fun p hp' => ?_, fun b o e => ?_, I.len⟩
  · rw [upd_ne (fun z => by rw [z, h0] at e; cases e)]
    exact I.base.free b o e n hx
  · obtain ⟨more, e2⟩ := I.base.tbls b ps e
    exact ⟨more, up _ _ e2⟩
  · rw [upd_ne (Ne.symm nL)]; exact I.free
  · rw [upd_ne (nC x c e)]; exact I.freeC x c e
  · obtain ⟨h1, h2, h3⟩ := I.pin p hp'
    exact ⟨h1, by rw [upd_ne (hp p hp')]; exact h2, h3⟩
  · by_cases z : b = a
    · subst z
      rw [upd_same] at e
      cases e
      exact ok
    · rw [upd_ne z] at e
      exact (I.hok b o e).stay (fun c w' hc q => q) (fun y q => up _ _ q) fun y z q => up _ _ q
/-- what a try wishes whose clause keeps the exception: slot i is the clause's name -/
def wKeep (K : PySem.W.Frag) (c : Value) (i : Nat) (ts : Addr → TS) (Wout : WX) (D : Ends) : WX := fun cls d σ H =>
  ∃ b, PySem.W.exmOne K cls c = some b ∧ (b = true → ∃ C, cls = .ref C ∧ d = none ∧ ∀ a, H a = none → ts a { nx := fun σ' H' => D.nx (σ'.set i none) (upd H' a (excH a C)), rt := fun _ _ => False, bk := fun _ _ => False, ct := fun _ _ => False } (σ.set i (some (.ref a))) H) ∧
    (b = false → Wout cls d σ H)
end
section
variable {X : Cx} {x n : Str} {c : Value} {i : Nat} {body suite : List Stmt} {b₀ : Stmt} {np pos pos' : Pos} {tb : WX → TS} {ts : Addr → TS} {Wout : WX}
theorem ps_try_keep (hs : X.stack = X.env :: X.outer) (hf : X.env.frame = some X.env.locals) (hex : X.ex = []) (hcl : ∀ x c, X.env.cells.lookup x = some c → False) (hN : X.N.Nodup) (hi : X.N[i]? = some n) (hln : X.env.kindOf n = some .local) (hc : Names X x c) (tk : Takes X Wout)
    (hb : ∀ (W : WX) (pn : List (Addr × Obj)) (xe : Value → Shared → Prop), Takes (X.tr pn xe) W → PassesOwn (model X.prog X.w) X.A X.env xe → PSs (X.tr pn xe) body (tb W))
    (hsu : ∀ (a : Addr) (pn : List (Addr × Obj)), PSs (X.suite a pn) (b₀ :: suite) (ts a)) :
    PS X (.Try body [.ExceptHandler (some (.Name x np)) (some n) (b₀ :: suite) pos'] [] [] pos) (fun D σ H => tb (wKeep X.K c i ts Wout D) D σ H) := by
  refine ⟨fun pins s σ H D I h => ?_⟩
  have ok := I.ok
  have hfr : X.A.frames = some (X.env :: X.outer) := by rw [ok.frames, hs]
  have hloc : Loc X.env.scope n := .inl hln
  refine wpAny_Try_except ?_
  refine wpAny_mono ((hb (wKeep X.K c i ts Wout D) (X.pn ++ pins) (fun e s₁ => wpAny (model X.prog X.w) X.A (noteFrame e X.env) (fun _ s₂ => wpAny (model X.prog X.w) X.A (setFlight e none) (fun _ s₃ =>
    wpAny (model X.prog X.w) X.A (handleBy e X.env [.ExceptHandler (some (.Name x np)) (some n) (b₀ :: suite) pos']) (SP X pins D) X.xe s₃) X.xe s₂) X.xe s₁) (fun u s' xx => ?_) PassesOwn.looking).run [] s σ H D (I.toTry _) h) (fun f s1 hsp => ?_) (fun e s1 he => he)
  · -- the catch
    obtain ⟨a, B, sI, pins', σ', H', cls, d, rfl, J', nb, up, sky, na, os, ag, b, hb1, hyes, hno⟩ := xx
    have J : Inv X pins σ' H' sI := J'.ofTry ok
    have sky' : Sky B (X.env :: X.outer) a (Zc cls d) X.env.locals s'.heap := by rw [← hs]; exact sky
    show wpAny (model X.prog X.w) X.A (noteFrame (.ref a) X.env) _ _ _
    refine Sky.land Zc.steady hfr hf sky' fun h3 fl3 up3 => ?_
    have J3 : Inv X pins σ' H' { s' with heap := h3 } := J.landed nb fl3.1 (up.trans up3) os ag
    obtain ⟨oe3, vs3, he3, hz3, hd3⟩ := fl3.there
    have notFr : ∀ {h : Heap} {o : Obj} {vs : Array Value}, h.FunFrames B (X.env :: X.outer) → h.get? a = some o → o.data = .fields vs → a ∉ frs (X.env :: X.outer) := fun {h o vs} ff e dd hm => by
      obtain ⟨_, o', e', hnf⟩ := ff.mem hm
      rw [e] at e'; cases e'
      exact hnf _ dd
    have nfr := notFr fl3.2.2.1 he3 hd3
    have nL : a ≠ X.env.locals := fun z => nfr (List.mem_filterMap.mpr ⟨X.env, List.mem_cons_self, by rw [hf, z]⟩)
    have nF : a ∉ X.fs := fun hm => by
      obtain ⟨e, he, q⟩ := List.mem_filterMap.mp hm
      exact nfr (List.mem_filterMap.mpr ⟨e, List.mem_cons_of_mem _ he, q⟩)
    have hnew : X.s_0.heap.get? a = none := by
      cases e0 : X.s_0.heap.get? a with
      | none => rfl
      | some o0 =>
        obtain ⟨o1, e1⟩ := J.base.there a o0 e0 (by rw [hex]; exact List.not_mem_nil)
        have e2 := nb a o1 e1 (by rw [hs]; exact nfr)
        rw [fl3.2.1] at e2
        cases e2
    have hInone : sI.heap.get? a = none := by
      cases e1 : sI.heap.get? a with
      | none => rfl
      | some o1 =>
        have e2 := nb a o1 e1 (by rw [hs]; exact nfr)
        rw [fl3.2.1] at e2
        cases e2
    have hpn : ∀ p ∈ X.pn ++ pins, p.1 ≠ a := fun p hp z => by
      have := (J.pin p hp).1
      rw [z, hInone] at this
      cases this
    have S3 := J3.suite he3 hd3 na nL nF
    refine wpAny_handleBy_cons (codeAny_handlers_test ?_) (by intro q; cases q)
    have LT : PySem.W.Looks (model X.prog X.w) h3 (typeOf (.ref a)) cls := fun A Q E s k q => wpAny_typeOf_ref (k _ _ he3) (by rw [hz3.1]; exact q)
    have LM := PySem.W.exm_one (M := model X.prog X.w) (J3.kIn) LT hb1
    have test : ∀ {Q : Value → Shared → Prop} {E : Value → Shared → Prop}, Q c { s' with heap := h3 } → wpAny (model X.prog X.w) (X.A.mark (some (.ref a))) (eval (.Name x np) X.env) Q E { s' with heap := h3 } := fun {Q E} q => by
      obtain ⟨hg, hdbg, hm | ⟨hm, hv, hnn⟩⟩ := hc
      · exact ld_glob (X := X.suite a ((a, oe3) :: (X.pn ++ pins))) S3 hg hm q hdbg
      · exact ld_blt (X := X.suite a ((a, oe3) :: (X.pn ++ pins))) S3 hg hm hv q hnn hdbg
    refine test (LM.here ?_)
    cases b with
    | true =>
      obtain ⟨C, rfl, rfl, hy2⟩ := hyes rfl
      refine codeAny_handlers_suite_as ?_
      refine HandSPX.lands_againZ fl3 fun h4 fl4 up4 => ?_
      have J4 : Inv X pins σ' H' { s' with heap := h4 } := J.landed nb fl4.1 ((up.trans up3).trans up4) os ag
      obtain ⟨oe4, vs4, he4, hz4, hd4⟩ := fl4.there
      have S4 := J4.suite he4 hd4 na nL nF
      refine store_ok (X := X.suite a ((a, oe4) :: (X.pn ++ pins))) (v := .ref a) S4 hN hi hloc rfl (fun s5 S5 => ?_) (.inr hln)
      refine wpAny_mono ((hsu a ((a, oe4) :: (X.pn ++ pins))).run [] s5 _ H' _ S5 (hy2 a na)) (fun f s6 hsp => ?_) (fun _ _ z => False.elim z)
      cases f with
      | next =>
        obtain ⟨σ6, H6, S6, q6⟩ := hsp
        have S7 : Inv X ((a, oe4) :: pins) σ6 H6 s6 := ⟨ok, S6.os, S6.bare, S6.base, S6.loc, S6.cell, S6.free, S6.freeC, fun p hp => S6.pin p (List.mem_append_left _ (by
          rcases List.mem_append.mp hp with z | z
          · exact List.mem_cons_of_mem _ (List.mem_append_left _ z)
          · rcases List.mem_cons.mp z with z | z
            · rw [z]; exact List.mem_cons_self
            · exact List.mem_cons_of_mem _ (List.mem_append_right _ z))), S6.hok, S6.len⟩
        refine gone_ok (Q := fun _ s7 => SP X pins D .next s7) S7 hN hi hln fun s7 J7 => ?_
        obtain ⟨g1, g2, g3, g4, g5⟩ := J7.pin (a, oe4) (List.mem_append_right _ List.mem_cons_self)
        have J8 : Inv X pins (σ6.set i none) H6 s7 := J7.pins_of fun p hp => J7.pin p (List.mem_append_right _ (List.mem_cons_of_mem _ hp))
        refine ⟨_, _, Inv.adopt J8 hnew g2 g3 (fun y c e => (hcl y c e).elim) hpn (exc_ok g1 hz4 ⟨_, hd4⟩), q6⟩
      | brk => obtain ⟨_, _, _, q6⟩ := hsp; exact q6.elim
      | cont => obtain ⟨_, _, _, q6⟩ := hsp; exact q6.elim
      | ret u => obtain ⟨_, _, _, _, _, q6⟩ := hsp; exact q6.elim
    | false =>
      show wpAny _ X.A (handleBy (.ref a) X.env []) _ _ _
      refine wpAny_handleBy_nil ?_
      obtain ⟨k1, k2, k3, oe, vs, T, oT, ts', he, hz, hd, h1, hr⟩ := id fl3
      unfold PySem.passOn
      refine wpAny_bind (wpAny_field he hd h1 ?_)
      rw [if_neg (show ¬ ((Value.ref T == Value.none) = true) from by simp)]
      have fin : wpAny (model X.prog X.w) X.A (setFlight (.ref a) X.env.frame) (fun _ s4 => wpAny (model X.prog X.w) X.A (throw (.ref a) : Sem Flow) (SP X pins D) X.xe s4) X.xe { s' with heap := h3 } := by
        rw [hf]
        refine HandSPX.setFlight_upZ fl3 fun h4 hh4 up4 => wpAny_throw (tk _ _ ?_)
        exact ⟨a, B, sI, pins, σ', H', cls, d, rfl, J, nb, (up.trans up3).trans up4, .inr (.inr (by rw [hs]; exact hh4)), na, os, ag, hno rfl⟩
      first
        | exact wpAny_bind (wpAny_pure (wpAny_bind fin))
        | exact wpAny_bind fin
  · cases f with
    | next =>
      obtain ⟨σ', H', J', q⟩ := hsp
      exact wpAny_execs_nil ⟨σ', H', J'.ofTry ok, q⟩
    | brk =>
      obtain ⟨σ', H', J', q⟩ := hsp
      exact ⟨σ', H', J'.ofTry ok, q⟩
    | cont =>
      obtain ⟨σ', H', J', q⟩ := hsp
      exact ⟨σ', H', J'.ofTry ok, q⟩
    | ret u =>
      obtain ⟨v, σ', H', J', r, q⟩ := hsp
      exact ⟨v, σ', H', J'.ofTry ok, r, q⟩
end
/-! ### isinstance of a kept exception -/
/-- isinstance(e, c) -/
def rIsX (K : PySem.W.Frag) : List V → Hp → VK → Prop := fun xs H Q => ∃ (a D : Addr) (c : V) (u : Value) (b : Bool), xs = [.ref a, c] ∧ H a = some (excH a D) ∧ ExcC K D ∧ ClsV c u ∧ PySem.W.kitOne K (.ref D) u = some b ∧ Q (.bl b) H
/-- isinstance(e, (c1, c2, ..)) -/
def rIsXT (K : PySem.W.Frag) : List V → Hp → VK → Prop := fun xs H Q => ∃ (a D tp : Addr) (cs : List V) (us : List Value) (b : Bool), xs = [.ref a, .ref tp] ∧ H a = some (excH a D) ∧ ExcC K D ∧ H tp = some (.tup cs) ∧ Paired ClsV cs us ∧ PySem.W.kitAny K (.ref D) us = some b ∧ Q (.bl b) H
section
variable {X : Cx}
theorem call_isX : CallR X (.builtin "isinstance") (rIsX X.K) := by
  intro pins s σ H xs us Q I r h
  obtain ⟨a, D, c, u, b, rfl, ha, C, k, e, q⟩ := h
  obtain ⟨u1, u2, rfl, r1, r2⟩ := vals2 r
  have e2 := k.eq r2
  subst e2
  cases (show u1 = Value.ref a from r1)
  obtain ⟨⟨oe, J⟩, _⟩ := (show ObjOk X.prog X.w H s.heap a (excH a D) from I.hok a _ ha)
  exact PySem.W.kia_one (PySem.W.handS_kitx_exc C.hg C.hk C.hs C.hd C.ha C.hn C.ht C.hm) I.kIn J e (fun z => nomatch z) fun tk => ⟨.bl b, H, I.tok tk, rfl, q⟩
theorem call_isXT : CallR X (.builtin "isinstance") (rIsXT X.K) := by
  intro pins s σ H xs us Q I r h
  obtain ⟨a, D, tp, cs, ws, b, rfl, ha, C, hT, k, e, q⟩ := h
  obtain ⟨u1, u2, rfl, r1, r2⟩ := vals2 r
  cases (show u2 = Value.ref tp from r2)
  cases (show u1 = Value.ref a from r1)
  obtain ⟨⟨oe, J⟩, _⟩ := (show ObjOk X.prog X.w H s.heap a (excH a D) from I.hok a _ ha)
  obtain ⟨_, its, rv, o, h1, h2, n, h3⟩ := (show ObjOk X.prog X.w H s.heap tp (.tup cs) from I.hok tp _ hT)
  have e3 := ClsV.all k rv
  subst e3
  obtain ⟨oc, od, dt, sl⟩ := o
  simp only at h2 h3
  subst h2 h3
  exact PySem.W.kia_tup (PySem.W.handS_kitx_exc C.hg C.hk C.hs C.hd C.ha C.hn C.ht C.hm) I.kIn J h1 e (fun z => nomatch z) fun tk => ⟨.bl b, H, I.tok tk, rfl, q⟩
end
/-! ### defs that may raise -/
structure FnX (P : Program) (w : World) (K : PySem.W.Frag) (mg : Str → Option Value) (base : Heap) (x : Str) (k : Nat) (ps : List Str) (sp : Sp) : Prop where
  ex : ∃ (f : Addr) (fd : FuncData), FnOk P w K mg base (L2.CX P w) k f fd ps sp ∧ mg x = some (.ref f) ∧ PySem.W.keepIn K (.ref f) = true ∧ Binds K fd ps []
section
variable {X : Cx} {k : Nat} {ps : List Str} {sp : Sp} {x : Str} {p pos : Pos} {e : Expr} {es : List Expr} {t : TA} {W : WX}
/-- in a try, or in a def that lets it out -/
theorem pe_fnX (F : FnX X.prog X.w X.K X.mg X.base x k ps sp) (hr : Room k X.A) (tk : Takes X W) (ha : PA X (e :: es) t) (hg : Gl X x := by rfl)
    (hdb : (x == ("__debug__" : Str)) = false := by decide) (he : starEach (e :: es) X.env = (false, eval e X.env) :: starEach es X.env := by rfl) (hpl : (backTo pos (starEach es X.env)).any (·.1) = false := by rfl) :
    PE X (.Call (.Name x p) (e :: es) [] pos) (tCallS sp (WE W) t) := by
  obtain ⟨f, fd, F1, g, kp, b⟩ := F.ex
  exact pe_callS F1 hr hg g kp b (passAt tk) ha hdb he hpl
/-- where nothing is raised -/
theorem pe_fnX0 (F : FnX X.prog X.w X.K X.mg X.base x k ps sp) (hr : Room k X.A) (ha : PA X (e :: es) t) (hg : Gl X x := by rfl)
    (hdb : (x == ("__debug__" : Str)) = false := by decide) (he : starEach (e :: es) X.env = (false, eval e X.env) :: starEach es X.env := by rfl) (hpl : (backTo pos (starEach es X.env)).any (·.1) = false := by rfl) :
    PE X (.Call (.Name x p) (e :: es) [] pos) (tCall sp [] E0 t) := by
  obtain ⟨f, fd, F1, g, kp, b⟩ := F.ex
  exact pe_call F1 hr hg g kp b .nil (fun _ _ _ _ _ _ _ ⟨_, _, _, _, _, _, _, _, _, _, _, _, z⟩ => z.elim) ha hdb he hpl
/-- raise C('..') -/
def tRaise (C : Addr) (W : WX) : TS := fun _ σ H => W (.ref C) none σ H
structure ExM (K : PySem.W.Frag) (C : Addr) : Prop where
  q : PySem.W.excIn K C He.veBase "ValueError.__new__" = true
  kp : PySem.W.keepIn K (.ref C) = true
  sb : PySem.W.subIn K (.ref C) (.type "BaseException") = some true
  ty : PySem.W.typeIn K (.ref C) = some (.type "type")
theorem ps_rai {C : Addr} {m : Str} {j : Nat} {p p2 pos pos' : Pos} (M : ExM X.K C) (g : X.mg x = some (.ref C)) (hc : X.calm = true) (tk : Takes X W) (hg : Gl X x := by rfl) (hdb : (x == ("__debug__" : Str)) = false := by decide) :
    PS X (.Raise (some (.Call (.Name x p) [.Constant (.str m) j p2] [] pos)) none pos') (tRaise C W) :=
  ps_raise hc tk (pmk_own PySem.F.excBase_ValueError M.q g M.kp (raises_own M.sb M.ty) hg hdb)
end
end Px
set_option Elab.async false
set_option linter.all false
set_option maxRecDepth 100000
namespace Px
open PySem L2
/-! ### the program's own exceptions -/
def five : List Str := ["NoPrimes", "NoPlace", "NoNumber", "NoText", "NoCommand"]
def excB (K : PySem.W.Frag) (D : Addr) : Bool :=
  He.eqO (PySem.W.findIn K (.ref D) "__getattribute__") (some (some (.builtin "BaseException.__getattribute__"))) && (He.eqO (PySem.W.findIn K (.ref D) "__getattr__") (some none) && (decide (PySem.W.subIn K (.ref D) (.type "BaseException") = some true) && (PySem.W.hasDictIn K D &&
  (He.eqO (PySem.W.findIn K (.ref D) "__class__") (some (some (.builtin "object.__class__"))) && (He.eqO (PySem.W.specialIn K (.builtin "object.__class__") "__get__") (some (some (.builtin "getset_descriptor.__get__"))) && (decide (PySem.W.takesIn K (.builtin "object.__class__") = some true) && decide (PySem.W.mroIn K D (.type "object") = some true)))))))
theorem excB_ok {K : PySem.W.Frag} {D : Addr} (h : excB K D = true) : ExcC K D := by
  unfold excB at h
  obtain ⟨h1, h⟩ := He.ba h
  obtain ⟨h2, h⟩ := He.ba h
  obtain ⟨h3, h⟩ := He.ba h
  obtain ⟨h4, h⟩ := He.ba h
  obtain ⟨h5, h⟩ := He.ba h
  obtain ⟨h6, h⟩ := He.ba h
  obtain ⟨h7, h8⟩ := He.ba h
  exact ⟨He.eqO_ok h1, He.eqO_ok h2, of_decide_eq_true h3, h4, He.eqO_ok h5, He.eqO_ok h6, of_decide_eq_true h7, of_decide_eq_true h8⟩
def oneB (K : PySem.W.Frag) (x : Str) : Bool :=
  (He.Fa.exc x).ok K && (excB K (He.ga K x) && (decide (PySem.W.exmOne K (.ref (He.ga K x)) (.ref (He.ga K "PartError")) = some true) && (decide (PySem.W.kitOne K (.ref (He.ga K x)) (.type "ValueError") = some true) && five.all fun y => decide (PySem.W.kitOne K (.ref (He.ga K x)) (.ref (He.ga K y)) = some (decide (x = y))))))
def errB (K : PySem.W.Frag) : Bool := five.all fun x => oneB K x
structure ErrAt (K : PySem.W.Frag) (x : Str) : Prop where
  em : ExM K (He.ga K x)
  ec : ExcC K (He.ga K x)
  part : PySem.W.exmOne K (.ref (He.ga K x)) (.ref (He.ga K "PartError")) = some true
  val : PySem.W.kitOne K (.ref (He.ga K x)) (.type "ValueError") = some true
  kit : ∀ y ∈ five, PySem.W.kitOne K (.ref (He.ga K x)) (.ref (He.ga K y)) = some (decide (x = y))
def Errs (K : PySem.W.Frag) : Prop := ∀ x ∈ five, ErrAt K x
theorem errB_ok {K : PySem.W.Frag} (h : errB K = true) : Errs K := fun x hx => by
  have h := List.all_eq_true.mp h x hx
  obtain ⟨h1, h⟩ := He.ba h
  obtain ⟨h2, h⟩ := He.ba h
  obtain ⟨h3, h⟩ := He.ba h
  obtain ⟨h4, h5⟩ := He.ba h
  obtain ⟨a, b, c, d⟩ := He.exc_ok h1
  exact ⟨⟨a, b, c, d⟩, excB_ok h2, of_decide_eq_true h3, of_decide_eq_true h4, fun y hy => of_decide_eq_true (List.all_eq_true.mp h5 y hy)⟩
/-! ### what the top has left, with these -/
abbrev AlX : Type := AlL × Bool
def obsX (n : Nat) (fa : List He.Fa) (fn : List He.DefD) (ls : List (Str × List He.Dv)) (g : Addr → Option Obj) : AlX :=
  (obsL n fa fn ls g, errB (He.frG g (He.asD g n)))
def hookX (n : Nat) (fa : List He.Fa) (fn : List He.DefD) (ls : List (Str × List He.Dv)) : PySem.W.Hook where
  α := AlX
  obs := fun s => obsX n fa fn ls s.heap.get?
  val := fun _ => ((He.valD fn, true), true)
  says := fun _ h => ∃ K : PySem.W.Frag, K.In h ∧ He.SaysD fa fn K ∧ (ls.all fun q => He.lstB K q.1 q.2) = true ∧ errB K = true
  of := fun _ _ e => ⟨_, He.frG_in, congrArg (fun z : AlX => z.1.1) e, congrArg (fun z : AlX => z.1.2) e, congrArg (fun z : AlX => z.2) e⟩
  keeps := fun _ _ _ ⟨K, hK, c1, c2, c3⟩ k => ⟨K, PySem.W.Frag.In.keeps hK k, c1, c2, c3⟩
theorem obsX_eq {n : Nat} {fa : List He.Fa} {fn : List He.DefD} {ls : List (Str × List He.Dv)} {g : Addr → Option Obj} {s : Shared} (h : ∀ a, g a = s.heap.get? a) : obsX n fa fn ls g = (hookX n fa fn ls).obs s := by
  have e : g = s.heap.get? := funext h
  subst e; rfl
/-! ### the try of a law -/
def tTryK (K : PySem.W.Frag) (c : Value) (i : Nat) (tb : WX → TS) (ts : Addr → TS) : TS := fun D σ H => tb (wKeep K c i ts (fun _ _ _ _ => False) D) D σ H
theorem ps_tryk {X : Cx} {x n : Str} {c : Value} {i : Nat} {body suite : List Stmt} {b₀ : Stmt} {np pos pos' : Pos} {tb : WX → TS} {ts : Addr → TS} (hs : X.stack = X.env :: X.outer) (hf : X.env.frame = some X.env.locals) (hex : X.ex = []) (hcl : ∀ x c, X.env.cells.lookup x = some c → False) (hN : X.N.Nodup) (hi : X.N[i]? = some n) (hln : X.env.kindOf n = some .local) (hc : Names X x c)
    (hb : ∀ (W : WX) (pn : List (Addr × Obj)) (xe : Value → Shared → Prop), Takes (X.tr pn xe) W → PassesOwn (model X.prog X.w) X.A X.env xe → PSs (X.tr pn xe) body (tb W))
    (hsu : ∀ (a : Addr) (pn : List (Addr × Obj)), PSs (X.suite a pn) (b₀ :: suite) (ts a)) :
    PS X (.Try body [.ExceptHandler (some (.Name x np)) (some n) (b₀ :: suite) pos'] [] [] pos) (tTryK X.K c i tb ts) :=
  ps_try_keep hs hf hex hcl hN hi hln hc (fun u s' ⟨_, _, _, _, _, _, _, _, _, _, _, _, _, _, _, _, z⟩ => z.elim) hb hsu
/-- the body lets one of the five out, and it is caught and kept -/
theorem w_tryk {K : PySem.W.Frag} {i : Nat} {tb : WX → TS} {ts : Addr → TS} {D : Ends} {σ : L2.St} {H : Hp} (h : tb (wKeep K (.ref (He.ga K "PartError")) i ts (fun _ _ _ _ => False) D) D σ H) : tTryK K (.ref (He.ga K "PartError")) i tb ts D σ H := h
theorem w_caught {K : PySem.W.Frag} (hX : Errs K) {x : Str} (hx : x ∈ five) {i : Nat} {ts : Addr → TS} {Wout : WX} {D : Ends} {σ : L2.St} {H : Hp} (k : ∀ a, H a = none → ts a { nx := fun σ' H' => D.nx (σ'.set i none) (upd H' a (excH a (He.ga K x))), rt := fun _ _ => False, bk := fun _ _ => False, ct := fun _ _ => False } (σ.set i (some (.ref a))) H) :
    wKeep K (.ref (He.ga K "PartError")) i ts Wout D (.ref (He.ga K x)) none σ H := ⟨true, (hX x hx).part, fun _ => ⟨_, rfl, rfl, k⟩, fun z => nomatch z⟩
end Px
set_option linter.all false
set_option maxHeartbeats 1000000
namespace MA
/-! ### numbers made of some primes -/
inductive Mk (row : List Nat) : Nat → Prop
  | one : Mk row 1
  | mul {p n : Nat} : p ∈ row → Mk row n → Mk row (p * n)
theorem mk_mono {r r' : List Nat} (h : ∀ p ∈ r, p ∈ r') {n : Nat} (m : Mk r n) : Mk r' n := by
  induction m with
  | one => exact .one
  | mul hp _ ih => exact .mul (h _ hp) ih
theorem mk_congr {r r' : List Nat} (h : ∀ p, p ∈ r ↔ p ∈ r') {n : Nat} : Mk r n ↔ Mk r' n := ⟨mk_mono fun p => (h p).mp, mk_mono fun p => (h p).mpr⟩
theorem mk_times {r : List Nat} {a b : Nat} (h : Mk r a) (g : Mk r b) : Mk r (a * b) := by
  induction h with
  | one => rw [Nat.one_mul]; exact g
  | mul hp _ ih => rw [Nat.mul_assoc]; exact .mul hp ih
theorem mk_pow {r : List Nat} {p : Nat} (h : p ∈ r) (k : Nat) : Mk r (p ^ k) := by
  induction k with
  | zero => exact .one
  | succ k ih => rw [Nat.pow_succ, Nat.mul_comm]; exact .mul h ih
theorem mk_self {r : List Nat} {p : Nat} (h : p ∈ r) : Mk r p := by
  have := mk_pow h 1
  rwa [Nat.pow_one] at this
theorem mk_nil {n : Nat} (h : Mk [] n) : n = 1 := by
  cases h with
  | one => rfl
  | mul hp _ => cases hp
theorem mk_cons {p : Nat} {r : List Nat} {n : Nat} : Mk (p :: r) n ↔ ∃ k m, n = m * p ^ k ∧ Mk r m := by
  constructor
  · intro h
    induction h with
    | one => exact ⟨0, 1, rfl, .one⟩
    | mul hq _ ih =>
      obtain ⟨k, m, rfl, hm⟩ := ih
      rcases List.mem_cons.mp hq with rfl | hq
      · exact ⟨k + 1, m, by rw [Nat.pow_succ]; simp only [Nat.mul_assoc, Nat.mul_comm, Nat.mul_left_comm], hm⟩
      · exact ⟨k, _ * m, by rw [Nat.mul_assoc], .mul hq hm⟩
  · rintro ⟨k, m, rfl, hm⟩
    exact mk_times (mk_mono (fun _ h => List.mem_cons_of_mem _ h) hm) (mk_pow List.mem_cons_self k)
structure Good (row : List Nat) : Prop where
  ge : ∀ p ∈ row, 2 ≤ p
  cop : row.Pairwise Nat.Coprime
theorem Good.tail {p : Nat} {r : List Nat} (g : Good (p :: r)) : Good r := ⟨fun q h => g.ge q (List.mem_cons_of_mem _ h), (List.pairwise_cons.mp g.cop).2⟩
theorem Good.head {p : Nat} {r : List Nat} (g : Good (p :: r)) : 2 ≤ p := g.ge p List.mem_cons_self
theorem Good.off {p : Nat} {r : List Nat} (g : Good (p :: r)) : ∀ q ∈ r, Nat.Coprime p q := (List.pairwise_cons.mp g.cop).1
theorem good_nil : Good [] := ⟨fun _ h => (List.not_mem_nil h).elim, List.Pairwise.nil⟩
theorem Good.sub {r r' : List Nat} (g : Good r') (h : r.Sublist r') : Good r := ⟨fun p hp => g.ge p (h.subset hp), g.cop.sublist h⟩
theorem Good.perm {r r' : List Nat} (g : Good r') (h : r.Perm r') : Good r := ⟨fun p hp => g.ge p (h.mem_iff.mp hp), (h.pairwise_iff (fun z => Nat.Coprime.symm z)).mpr g.cop⟩
theorem mk_pos {r : List Nat} (g : ∀ p ∈ r, 2 ≤ p) {n : Nat} (h : Mk r n) : 0 < n := by
  induction h with
  | one => exact Nat.one_pos
  | mul hp _ ih => exact Nat.mul_pos (by have := g _ hp; omega) ih
theorem cop_mk {p : Nat} {r : List Nat} (h : ∀ q ∈ r, Nat.Coprime p q) {m : Nat} (hm : Mk r m) : Nat.Coprime p m := by
  induction hm with
  | one => exact Nat.coprime_one_right p
  | mul hq _ ih => exact Nat.Coprime.mul_right (h _ hq) ih
theorem cop_ndvd {p m : Nat} (hp : 2 ≤ p) (h : Nat.Coprime p m) : ¬ p ∣ m := fun z => by
  have : Nat.gcd p m = p := Nat.gcd_eq_left z
  have h1 : Nat.gcd p m = 1 := h
  omega
theorem Good.ndvd {p : Nat} {r : List Nat} (g : Good (p :: r)) {m : Nat} (hm : Mk r m) : ¬ p ∣ m := cop_ndvd g.head (cop_mk g.off hm)
theorem split_eq {p : Nat} (hp : 2 ≤ p) : ∀ {k k' m m' : Nat}, ¬ p ∣ m → ¬ p ∣ m' → m * p ^ k = m' * p ^ k' → k = k' ∧ m = m'
  | 0, 0, m, m', _, _, e => ⟨rfl, by simpa using e⟩
  | 0, k + 1, m, m', h, _, e => by
    rw [Nat.pow_zero, Nat.mul_one, Nat.pow_succ, ← Nat.mul_assoc] at e
    exact absurd ⟨m' * p ^ k, by rw [e, Nat.mul_comm]⟩ h
  | k + 1, 0, m, m', _, h, e => by
    rw [Nat.pow_zero, Nat.mul_one, Nat.pow_succ, ← Nat.mul_assoc] at e
    exact absurd ⟨m * p ^ k, by rw [← e, Nat.mul_comm]⟩ h
  | k + 1, k' + 1, m, m', h, h', e => by
    rw [Nat.pow_succ, Nat.pow_succ, ← Nat.mul_assoc, ← Nat.mul_assoc] at e
    have := split_eq hp h h' (Nat.eq_of_mul_eq_mul_right (by omega) e)
    exact ⟨by omega, this.2⟩
/-- a divisor that is one of the primes is made, too -/
theorem Good.div {r : List Nat} : ∀ (g : Good r) {n p : Nat}, p ∈ r → Mk r n → p ∣ n → Mk r (n / p) := by
  intro g n p hp hn hd
  have h1 : r.Perm (p :: r.erase p) := List.perm_cons_erase hp
  have g1 : Good (p :: r.erase p) := g.perm h1.symm
  have hn1 : Mk (p :: r.erase p) n := (mk_congr fun q => h1.mem_iff).mp hn
  obtain ⟨k, m, rfl, hm⟩ := mk_cons.mp hn1
  cases k with
  | zero => rw [Nat.pow_zero, Nat.mul_one] at hd; exact absurd hd (g1.ndvd hm)
  | succ k =>
    rw [Nat.pow_succ, ← Nat.mul_assoc, Nat.mul_div_cancel _ (by have := g1.head; omega)]
    exact (mk_congr fun q => h1.mem_iff).mpr (mk_cons.mpr ⟨k, m, rfl, hm⟩)
theorem Good.div_iff {r : List Nat} (g : Good r) {n p : Nat} (hp : p ∈ r) : Mk r (n * p) ↔ Mk r n := by
  have h2 := g.ge p hp
  constructor
  · intro h
    have := g.div hp h ⟨n, Nat.mul_comm _ _⟩
    rwa [Nat.mul_div_cancel _ (by omega)] at this
  · intro h; rw [Nat.mul_comm]; exact .mul hp h
/-- each but 1 is a prime times one of them -/
theorem mk_step {r : List Nat} {n : Nat} (h : Mk r n) (h1 : n ≠ 1) : ∃ p ∈ r, ∃ m, n = p * m ∧ Mk r m := by
  cases h with
  | one => exact absurd rfl h1
  | mul hp hm => exact ⟨_, hp, _, rfl, hm⟩
/-! ### taking primes out -/
def strip (p n : Nat) : Nat := if h : 2 ≤ p ∧ 0 < n ∧ n % p = 0 then strip p (n / p) else n
termination_by n
decreasing_by exact Nat.div_lt_self h.2.1 (by omega)
def stripAll : List Nat → Nat → Nat
  | [], n => n
  | p :: r, n => stripAll r (strip p n)
theorem strip_yes {p n : Nat} (h1 : 2 ≤ p) (h2 : 0 < n) (h3 : n % p = 0) : strip p n = strip p (n / p) := by rw [strip, dif_pos ⟨h1, h2, h3⟩]
theorem strip_no {p n : Nat} (h3 : n % p ≠ 0) : strip p n = n := by rw [strip, dif_neg (fun h => h3 h.2.2)]
theorem strip_spec {p : Nat} (hp : 2 ≤ p) : ∀ n, 0 < n → ∃ k, n = strip p n * p ^ k ∧ ¬ p ∣ strip p n ∧ 0 < strip p n := by
  intro n
  induction n using Nat.strongRecOn with
  | ind n ih =>
    intro hn
    by_cases h : n % p = 0
    · obtain ⟨k, e, h1, h2⟩ := ih (n / p) (Nat.div_lt_self hn (by omega)) (Nat.div_pos (Nat.le_of_dvd hn (Nat.dvd_of_mod_eq_zero h)) (by omega))
      rw [strip_yes hp hn h]
      refine ⟨k + 1, ?_, h1, h2⟩
      rw [Nat.pow_succ, ← Nat.mul_assoc, ← e, Nat.div_mul_cancel (Nat.dvd_of_mod_eq_zero h)]
    · rw [strip_no h]
      exact ⟨0, by simp, fun z => h (Nat.mod_eq_zero_of_dvd z), hn⟩
theorem stripAll_iff : ∀ {r : List Nat} (g : Good r) {n : Nat}, 0 < n → (stripAll r n = 1 ↔ Mk r n)
  | [], _, n, _ => ⟨fun h => by have h : n = 1 := h
                                rw [h]; exact .one, fun h => mk_nil h⟩
  | p :: r, g, n, hn => by
    obtain ⟨k, e, h1, h2⟩ := strip_spec g.head n hn
    show stripAll r (strip p n) = 1 ↔ _
    rw [stripAll_iff g.tail h2, mk_cons]
    constructor
    · intro h; exact ⟨k, _, e, h⟩
    · rintro ⟨k', m, e', hm⟩
      have := (split_eq g.head h1 (g.ndvd hm) (e.symm.trans e')).2
      rw [this]; exact hm
theorem stripAll_pos {r : List Nat} (g : ∀ p ∈ r, 2 ≤ p) : ∀ {n : Nat}, 0 < n → 0 < stripAll r n := by
  induction r with
  | nil => intro n h; exact h
  | cons p r ih =>
    intro n h
    obtain ⟨_, _, _, h2⟩ := strip_spec (g p List.mem_cons_self) n h
    exact ih (fun q hq => g q (List.mem_cons_of_mem _ hq)) h2
/-! ### lists without repetition -/
theorem perm_of {l l' : List Nat} (h : l.Nodup) (h' : l'.Nodup) (e : ∀ n, n ∈ l ↔ n ∈ l') : l.Perm l' := by
  rw [List.perm_iff_count]
  intro a
  rw [h.count, h'.count]
  by_cases z : a ∈ l
  · rw [if_pos z, if_pos ((e a).mp z)]
  · rw [if_neg z, if_neg (fun y => z ((e a).mpr y))]
theorem len_le {l : List Nat} : ∀ {m : List Nat}, l.Nodup → (∀ n ∈ l, n ∈ m) → l.length ≤ m.length := by
  induction l with
  | nil => intro m _ _; simp
  | cons a l ih =>
    intro m nd hs
    have ha := hs a List.mem_cons_self
    have h1 : l.length ≤ (m.erase a).length := ih (List.nodup_cons.mp nd).2 fun n hn => by
      have hne : n ≠ a := fun z => (List.nodup_cons.mp nd).1 (z ▸ hn)
      exact (List.mem_erase_of_ne hne).mpr (hs n (List.mem_cons_of_mem _ hn))
    rw [List.length_erase_of_mem ha] at h1
    have : 0 < m.length := List.length_pos_of_mem ha
    simp only [List.length_cons]
    omega
theorem pair_nodup {l : List Nat} (h : l.Pairwise (· < ·)) : l.Nodup := h.imp fun z => Nat.ne_of_lt z
theorem eq_of_pair {l l' : List Nat} (h : l.Pairwise (· < ·)) (h' : l'.Pairwise (· < ·)) (e : ∀ n, n ∈ l ↔ n ∈ l') : l = l' :=
  (perm_of (pair_nodup h) (pair_nodup h') e).eq_of_pairwise (fun a b _ _ h1 h2 => by omega) (h.imp Nat.le_of_lt) (h'.imp Nat.le_of_lt)
/-! ### all of them to a bound -/
def IsAll (row : List Nat) (b : Nat) (l : List Nat) : Prop := l.Nodup ∧ ∀ n, n ∈ l ↔ Mk row n ∧ n ≤ b
theorem IsAll.perm {row l l' : List Nat} {b : Nat} (h : IsAll row b l) (h' : IsAll row b l') : l.Perm l' := perm_of h.1 h'.1 fun n => (h.2 n).trans (h'.2 n).symm
theorem IsAll.of_perm {row l l' : List Nat} {b : Nat} (h : IsAll row b l) (p : l'.Perm l) : IsAll row b l' := ⟨p.nodup_iff.mpr h.1, fun n => p.mem_iff.trans (h.2 n)⟩
theorem IsAll.congr {r r' l : List Nat} {b : Nat} (e : ∀ p, p ∈ r ↔ p ∈ r') (h : IsAll r b l) : IsAll r' b l := ⟨h.1, fun n => (h.2 n).trans (and_congr_left fun _ => mk_congr e)⟩
theorem all_zero {row : List Nat} (g : ∀ p ∈ row, 2 ≤ p) : IsAll row 0 [] := ⟨List.Pairwise.nil, fun n => ⟨fun h => (List.not_mem_nil h).elim, fun h => by have := mk_pos g h.1; have := h.2; omega⟩⟩
theorem all_nil {b : Nat} (h : 0 < b) : IsAll [] b [1] := ⟨by simp, fun n => ⟨fun z => by rw [List.mem_singleton.mp z]; exact ⟨.one, h⟩, fun z => by rw [mk_nil z.1]; exact List.mem_singleton.mpr rfl⟩⟩
open Classical in
noncomputable def allL (row : List Nat) (b : Nat) : List Nat := (List.range (b + 1)).filter fun n => @decide (Mk row n) (Classical.propDecidable _)
noncomputable def cnt (row : List Nat) (b : Nat) : Nat := (allL row b).length
open Classical in
theorem allL_mem {row : List Nat} {b n : Nat} : n ∈ allL row b ↔ Mk row n ∧ n ≤ b := by
  unfold allL
  rw [List.mem_filter, List.mem_range, decide_eq_true_eq]
  constructor
  · rintro ⟨h1, h2⟩; exact ⟨h2, by omega⟩
  · rintro ⟨h1, h2⟩; exact ⟨by omega, h1⟩
theorem allL_pair (row : List Nat) (b : Nat) : (allL row b).Pairwise (· < ·) := List.pairwise_lt_range.sublist List.filter_sublist
theorem allL_is (row : List Nat) (b : Nat) : IsAll row b (allL row b) := ⟨pair_nodup (allL_pair row b), fun _ => allL_mem⟩
theorem IsAll.len {row l : List Nat} {b : Nat} (h : IsAll row b l) : l.length = cnt row b := (h.perm (allL_is row b)).length_eq
theorem IsAll.eq {row l : List Nat} {b : Nat} (h : IsAll row b l) (p : l.Pairwise (· < ·)) : l = allL row b := eq_of_pair p (allL_pair row b) fun n => (h.2 n).trans allL_mem.symm
theorem cnt_le {row l : List Nat} {b : Nat} (nd : l.Nodup) (h : ∀ n ∈ l, Mk row n ∧ n ≤ b) : l.length ≤ cnt row b := len_le nd fun n hn => allL_mem.mpr (h n hn)
theorem cnt_congr {r r' : List Nat} {b : Nat} (e : ∀ p, p ∈ r ↔ p ∈ r') : cnt r b = cnt r' b := ((allL_is r b).congr e).len
theorem allL_congr {r r' : List Nat} {b : Nat} (e : ∀ p, p ∈ r ↔ p ∈ r') : allL r b = allL r' b := ((allL_is r b).congr e).eq (allL_pair _ _)
theorem cnt_zero {row : List Nat} (g : ∀ p ∈ row, 2 ≤ p) : cnt row 0 = 0 := ((all_zero g).len).symm
open Classical in
theorem allL_succ_yes {row : List Nat} {b : Nat} (h : Mk row (b + 1)) : allL row (b + 1) = allL row b ++ [b + 1] := by
  unfold allL
  rw [List.range_succ, List.filter_append]
  congr 1
  rw [List.filter_cons, if_pos (by simpa using h)]; rfl
open Classical in
theorem allL_succ_no {row : List Nat} {b : Nat} (h : ¬ Mk row (b + 1)) : allL row (b + 1) = allL row b := by
  unfold allL
  rw [List.range_succ, List.filter_append]
  rw [List.filter_cons, if_neg (by simpa using h)]; simp
theorem cnt_yes {row : List Nat} {b : Nat} (h : Mk row (b + 1)) : cnt row (b + 1) = cnt row b + 1 := by unfold cnt; rw [allL_succ_yes h]; simp
theorem cnt_no {row : List Nat} {b : Nat} (h : ¬ Mk row (b + 1)) : cnt row (b + 1) = cnt row b := by unfold cnt; rw [allL_succ_no h]
theorem cnt_mono {row : List Nat} {a b : Nat} (h : a ≤ b) : cnt row a ≤ cnt row b := len_le (allL_is row a).1 fun n hn => by
  have := allL_mem.mp hn
  exact allL_mem.mpr ⟨this.1, by omega⟩
theorem cnt_row {r r' : List Nat} {b : Nat} (h : ∀ p ∈ r, p ∈ r') : cnt r b ≤ cnt r' b := len_le (allL_is r b).1 fun n hn => by
  have := allL_mem.mp hn
  exact allL_mem.mpr ⟨mk_mono h this.1, this.2⟩
/-- none between: as many -/
theorem cnt_gap {row : List Nat} {a b : Nat} (h : a ≤ b) (g : ∀ n, a < n → n ≤ b → ¬ Mk row n) : cnt row b = cnt row a := by
  obtain ⟨d, rfl⟩ := Nat.exists_eq_add_of_le h
  clear h
  induction d with
  | zero => rfl
  | succ d ih =>
    rw [← Nat.add_assoc, cnt_no (g _ (by omega) (by omega))]
    exact ih fun n h1 h2 => g n h1 (by omega)
theorem allL_gap {row : List Nat} {a b : Nat} (h : a ≤ b) (g : ∀ n, a < n → n ≤ b → ¬ Mk row n) : allL row b = allL row a := by
  obtain ⟨d, rfl⟩ := Nat.exists_eq_add_of_le h
  clear h
  induction d with
  | zero => rfl
  | succ d ih =>
    rw [← Nat.add_assoc, allL_succ_no (g _ (by omega) (by omega))]
    exact ih fun n h1 h2 => g n h1 (by omega)
theorem cnt_pos {row : List Nat} {b : Nat} (h : 0 < b) : 0 < cnt row b := List.length_pos_of_mem (allL_mem.mpr ⟨.one, h⟩)
/-- strictly more behind one that is made -/
theorem cnt_lt {row : List Nat} {a b : Nat} (h : a < b) (hb : Mk row b) : cnt row a < cnt row b := by
  cases b with
  | zero => omega
  | succ b =>
    rw [cnt_yes hb]
    have := cnt_mono (row := row) (a := a) (b := b) (by omega)
    omega
/-- the list behind one prime more: it is what it was, and its own numbers times the prime -/
theorem grow {r L F : List Nat} {p b : Nat} (g : Good (p :: r)) (h0 : IsAll r b L) (nd : F.Nodup) (hM : ∀ y ∈ F, Mk (p :: r) y ∧ y ≤ b) (hL : ∀ y ∈ L, y ∈ F) (hF : ∀ x ∈ F, x * p ≤ b → x * p ∈ F) : IsAll (p :: r) b F := by
  refine ⟨nd, fun n => ⟨hM n, ?_⟩⟩
  rintro ⟨h, hb⟩
  obtain ⟨k, m, rfl, hm⟩ := mk_cons.mp h
  clear h
  induction k with
  | zero =>
    rw [Nat.pow_zero, Nat.mul_one] at hb ⊢
    exact hL _ ((h0.2 m).mpr ⟨hm, hb⟩)
  | succ k ih =>
    rw [Nat.pow_succ, ← Nat.mul_assoc] at hb ⊢
    have h1 : m * p ^ k ≤ m * p ^ k * p := Nat.le_mul_of_pos_right _ (by have := g.head; omega)
    exact hF _ (ih (by omega)) hb
/-! ### the powers from a number on -/
def pwl (p b x : Nat) : List Nat := if h : 2 ≤ p ∧ 0 < x ∧ x ≤ b then x :: pwl p b (x * p) else []
termination_by b + 1 - x
decreasing_by
  have : x * 2 ≤ x * p := Nat.mul_le_mul_left x h.1
  omega
theorem pwl_yes {p b x : Nat} (h1 : 2 ≤ p) (h2 : 0 < x) (h3 : x ≤ b) : pwl p b x = x :: pwl p b (x * p) := by rw [pwl, dif_pos ⟨h1, h2, h3⟩]
theorem pwl_no {p b x : Nat} (h3 : b < x) : pwl p b x = [] := by rw [pwl, dif_neg (by omega)]
theorem pwl_mem {p b x : Nat} (hp : 2 ≤ p) (hx : 0 < x) : ∀ {y}, y ∈ pwl p b x ↔ ∃ k, y = x * p ^ k ∧ y ≤ b := by
  induction x using pwl.induct p b with
  | case1 x h ih =>
    intro y
    rw [pwl_yes h.1 h.2.1 h.2.2, List.mem_cons, ih (Nat.mul_pos hx (by omega))]
    constructor
    · rintro (rfl | ⟨k, rfl, hk⟩)
      · exact ⟨0, by simp, h.2.2⟩
      · exact ⟨k + 1, by rw [Nat.pow_succ]; simp only [Nat.mul_assoc, Nat.mul_comm, Nat.mul_left_comm], hk⟩
    · rintro ⟨k, rfl, hk⟩
      cases k with
      | zero => exact .inl (by simp)
      | succ k => exact .inr ⟨k, by rw [Nat.pow_succ]; simp only [Nat.mul_assoc, Nat.mul_comm, Nat.mul_left_comm], hk⟩
  | case2 x h =>
    intro y
    rw [pwl, dif_neg h]
    constructor
    · intro z; cases z
    · rintro ⟨k, rfl, hk⟩
      have : x * 1 ≤ x * p ^ k := Nat.mul_le_mul_left x (Nat.pow_pos (by omega))
      omega
theorem pwl_ge {p b x : Nat} : ∀ {y}, y ∈ pwl p b x → x ≤ y := by
  induction x using pwl.induct p b with
  | case1 x h ih =>
    intro y hy
    rw [pwl_yes h.1 h.2.1 h.2.2, List.mem_cons] at hy
    rcases hy with rfl | hy
    · exact Nat.le_refl _
    · have := ih hy
      have h2 : x * 2 ≤ x * p := Nat.mul_le_mul_left x h.1
      omega
  | case2 x h => intro y hy; rw [pwl, dif_neg h] at hy; cases hy
theorem pwl_pair {p b x : Nat} : (pwl p b x).Pairwise (· < ·) := by
  induction x using pwl.induct p b with
  | case1 x h ih =>
    rw [pwl_yes h.1 h.2.1 h.2.2]
    refine List.pairwise_cons.mpr ⟨fun y hy => ?_, ih⟩
    have h1 := pwl_ge hy
    have h2 : x * 2 ≤ x * p := Nat.mul_le_mul_left x h.1
    omega
  | case2 x h => rw [pwl, dif_neg h]; exact .nil
theorem pwl_len {p b : Nat} (hp : 2 ≤ p) : ∀ {k x : Nat}, 0 < x → b < x * p ^ k → (pwl p b x).length ≤ k := by
  intro k
  induction k with
  | zero => intro x _ h; rw [Nat.pow_zero, Nat.mul_one] at h; rw [pwl_no h]; simp
  | succ k ih =>
    intro x hx h
    by_cases hb : x ≤ b
    · rw [pwl_yes hp hx hb, List.length_cons]
      have := ih (x := x * p) (Nat.mul_pos hx (by omega)) (by rw [Nat.pow_succ] at h; rw [Nat.mul_assoc, Nat.mul_comm p]; exact h)
      omega
    · rw [pwl_no (by omega)]; simp
theorem nodup_flat {f : Nat → List Nat} : ∀ {L : List Nat}, L.Nodup → (∀ x ∈ L, (f x).Nodup) → (∀ x ∈ L, ∀ y ∈ L, x ≠ y → ∀ z ∈ f x, z ∉ f y) → (L.flatMap f).Nodup
  | [], _, _, _ => by simp
  | a :: L, nd, h1, h2 => by
    rw [List.flatMap_cons, List.nodup_append]
    have nd' := List.nodup_cons.mp nd
    refine ⟨h1 a List.mem_cons_self, nodup_flat nd'.2 (fun x hx => h1 x (List.mem_cons_of_mem _ hx)) (fun x hx y hy => h2 x (List.mem_cons_of_mem _ hx) y (List.mem_cons_of_mem _ hy)), fun z hz w hw e => ?_⟩
    subst e
    obtain ⟨y, hy, hz'⟩ := List.mem_flatMap.mp hw
    exact h2 a List.mem_cons_self y (List.mem_cons_of_mem _ hy) (fun e => nd'.1 (e ▸ hy)) z hz hz'
/-- one prime more, each with all its powers -/
theorem IsAll.flat {r L : List Nat} {p b : Nat} (g : Good (p :: r)) (h : IsAll r b L) : IsAll (p :: r) b (L.flatMap (pwl p b)) := by
  have hp := g.head
  have pos : ∀ x ∈ L, 0 < x := fun x hx => mk_pos g.tail.ge ((h.2 x).mp hx).1
  refine ⟨nodup_flat h.1 (fun x _ => pair_nodup pwl_pair) (fun x hx y hy ne z hz hz' => ?_), fun n => ?_⟩
  · obtain ⟨k, e1, _⟩ := (pwl_mem hp (pos x hx)).mp hz
    obtain ⟨k', e2, _⟩ := (pwl_mem hp (pos y hy)).mp hz'
    exact ne (split_eq hp (g.ndvd ((h.2 x).mp hx).1) (g.ndvd ((h.2 y).mp hy).1) (e1.symm.trans e2)).2
  · rw [List.mem_flatMap, mk_cons]
    constructor
    · rintro ⟨x, hx, hn⟩
      obtain ⟨k, e, hb⟩ := (pwl_mem hp (pos x hx)).mp hn
      exact ⟨⟨k, x, e, ((h.2 x).mp hx).1⟩, hb⟩
    · rintro ⟨⟨k, m, e, hm⟩, hb⟩
      have hm0 := mk_pos g.tail.ge hm
      have : m * 1 ≤ m * p ^ k := Nat.mul_le_mul_left m (Nat.pow_pos (by omega))
      have hL : m ∈ L := (h.2 m).mpr ⟨hm, by omega⟩
      exact ⟨m, hL, (pwl_mem hp hm0).mpr ⟨k, e, hb⟩⟩
theorem cnt_sum {r L : List Nat} {p b : Nat} (g : Good (p :: r)) (h : IsAll r b L) : cnt (p :: r) b = (L.map fun x => (pwl p b x).length).sum := by
  rw [← (h.flat g).len, List.length_flatMap]
theorem sum_le {f : Nat → Nat} {k : Nat} : ∀ {L : List Nat}, (∀ x ∈ L, f x ≤ k) → (L.map f).sum ≤ L.length * k
  | [], _ => by simp
  | a :: L, h => by
    rw [List.map_cons, List.sum_cons, List.length_cons, Nat.add_mul]
    have := sum_le fun x hx => h x (List.mem_cons_of_mem _ hx)
    have := h a List.mem_cons_self
    omega
theorem cnt_box {r : List Nat} {p b k : Nat} (g : Good (p :: r)) (h : b < p ^ k) : cnt (p :: r) b ≤ cnt r b * k := by
  rw [cnt_sum g (allL_is r b)]
  refine sum_le fun x hx => ?_
  have h0 := mk_pos g.tail.ge (allL_mem.mp hx).1
  refine pwl_len g.head h0 ?_
  have : 1 * p ^ k ≤ x * p ^ k := Nat.mul_le_mul_right _ h0
  omega
theorem cnt_nil {b : Nat} : cnt [] b ≤ 1 := by
  cases b with
  | zero => rw [cnt_zero (fun _ h => (List.not_mem_nil h).elim)]; omega
  | succ b => rw [← (all_nil (b := b + 1) (by omega)).len]; simp
/-- by a prime: those without it, and as many as to what it leaves of the bound -/
theorem cnt_split {r : List Nat} {p b : Nat} (g : Good (p :: r)) : cnt (p :: r) b = cnt r b + cnt (p :: r) (b / p) := by
  have hp := g.head
  have h1 : IsAll (p :: r) b (allL r b ++ (allL (p :: r) (b / p)).map (· * p)) := by
    refine ⟨?_, fun n => ?_⟩
    · rw [List.nodup_append]
      refine ⟨(allL_is _ _).1, ?_, fun a ha c hc e => ?_⟩
      · exact List.pairwise_map.mpr ((allL_is (p :: r) (b / p)).1.imp fun ne e => ne (Nat.eq_of_mul_eq_mul_right (by omega) e))
      · subst e
        obtain ⟨x, _, e⟩ := List.mem_map.mp hc
        exact g.ndvd (allL_mem.mp ha).1 ⟨x, by rw [← e, Nat.mul_comm]⟩
    · rw [List.mem_append, List.mem_map, allL_mem]
      constructor
      · rintro (⟨h1, h2⟩ | ⟨x, hx, rfl⟩)
        · exact ⟨mk_mono (fun _ z => List.mem_cons_of_mem _ z) h1, h2⟩
        · obtain ⟨h1, h2⟩ := allL_mem.mp hx
          exact ⟨by show Mk _ (x * p); rw [Nat.mul_comm]; exact .mul List.mem_cons_self h1, (Nat.le_div_iff_mul_le (by omega)).mp h2⟩
      · rintro ⟨h1, h2⟩
        obtain ⟨k, m, rfl, hm⟩ := mk_cons.mp h1
        cases k with
        | zero => rw [Nat.pow_zero, Nat.mul_one] at h2 ⊢; exact .inl ⟨hm, h2⟩
        | succ k =>
          rw [Nat.pow_succ, ← Nat.mul_assoc] at h2 ⊢
          exact .inr ⟨m * p ^ k, allL_mem.mpr ⟨mk_cons.mpr ⟨k, m, rfl, hm⟩, (Nat.le_div_iff_mul_le (by omega)).mpr h2⟩, rfl⟩
  rw [← h1.len, List.length_append, List.length_map]
  rfl
/-! ### next and last -/
structure IsNext (row : List Nat) (n m : Nat) : Prop where
  made : Mk row m
  gt : n < m
  le : ∀ k, Mk row k → n < k → m ≤ k
structure IsLast (row : List Nat) (n m : Nat) : Prop where
  made : Mk row m
  lt : m < n
  ge : ∀ k, Mk row k → k < n → k ≤ m
theorem IsNext.uniq {row : List Nat} {n m m' : Nat} (h : IsNext row n m) (h' : IsNext row n m') : m = m' := Nat.le_antisymm (h.le m' h'.made h'.gt) (h'.le m h.made h.gt)
theorem IsLast.uniq {row : List Nat} {n m m' : Nat} (h : IsLast row n m) (h' : IsLast row n m') : m = m' := Nat.le_antisymm (h'.ge m h.made h.lt) (h.ge m' h'.made h'.lt)
theorem IsNext.of_last {row : List Nat} {n m : Nat} (h : IsLast row n m) (hn : Mk row n) : IsNext row m n := ⟨hn, h.lt, fun k hk hmk => by
  rcases Nat.lt_or_ge k n with z | z
  · have := h.ge k hk z; omega
  · exact z⟩
theorem IsLast.of_next {row : List Nat} {n m : Nat} (h : IsNext row n m) (hn : Mk row n) : IsLast row m n := ⟨hn, h.gt, fun k hk hkm => by
  rcases Nat.lt_or_ge n k with z | z
  · have := h.le k hk z; omega
  · exact z⟩
theorem cnt_next {row : List Nat} {n m : Nat} (h : IsNext row n m) : cnt row m = cnt row n + 1 := by
  obtain ⟨md, gt, le⟩ := h
  cases m with
  | zero => omega
  | succ m =>
    rw [cnt_yes md, cnt_gap (row := row) (a := n) (b := m) (by omega) fun k h1 h2 hk => by have := le k hk h1; omega]
theorem cnt_last {row : List Nat} {n m : Nat} (h : IsLast row n m) : cnt row (n - 1) = cnt row m :=
  cnt_gap (by have := h.lt; omega) fun k h1 h2 hk => by have := h.ge k hk (by have := h.lt; omega); omega
end MA
set_option linter.all false
set_option maxHeartbeats 1000000
namespace MA
/-! ### rows of primes below 100 -/
def PR : List Nat := [2, 3, 5, 7, 11, 13, 17, 19, 23, 29, 31, 37, 41, 43, 47, 53, 59, 61, 67, 71, 73, 79, 83, 89, 97]
structure Rw (row : List Nat) : Prop where
  mem : ∀ p ∈ row, p ∈ PR
  up : row.Pairwise (· < ·)
  le : row.length ≤ 6
theorem pr_cop : ∀ p ∈ PR, ∀ q ∈ PR, p < q → Nat.Coprime p q := by decide +kernel
theorem pr_ge : ∀ p ∈ PR, 2 ≤ p := by decide
theorem pr_le : ∀ p ∈ PR, p ≤ 97 := by decide
theorem Rw.good {row : List Nat} (w : Rw row) : Good row := ⟨fun p hp => pr_ge p (w.mem p hp), w.up.imp_of_mem fun {p q} hp hq h => pr_cop p (w.mem p hp) q (w.mem q hq) h⟩
theorem Rw.ge {row : List Nat} (w : Rw row) {p : Nat} (h : p ∈ row) : 2 ≤ p ∧ p ≤ 97 := ⟨pr_ge p (w.mem p h), pr_le p (w.mem p h)⟩
theorem Rw.sub {row r : List Nat} (w : Rw row) (s : r.Sublist row) : Rw r := ⟨fun p h => w.mem p (s.subset h), w.up.sublist s, Nat.le_trans s.length_le w.le⟩
theorem Rw.tail {p : Nat} {r : List Nat} (w : Rw (p :: r)) : Rw r := w.sub (List.sublist_cons_self _ _)
theorem Rw.nil : Rw [] := ⟨fun _ h => (List.not_mem_nil h).elim, List.Pairwise.nil, by simp⟩
def Fits (row : List Nat) (b : Nat) : Prop := (row.length ≤ 4 ∧ b < 2 ^ 70) ∨ (row.length ≤ 5 ∧ b < 2 ^ 37) ∨ b ≤ 2 * 10 ^ 9
theorem Fits.sub {row r : List Nat} {b : Nat} (f : Fits row b) (s : r.length ≤ row.length) : Fits r b := by unfold Fits at *; omega
theorem Fits.mono {row : List Nat} {b c : Nat} (f : Fits row b) (h : c ≤ b) : Fits row c := by unfold Fits at *; omega
theorem box1 {p k K b : Nat} {r : List Nat} (g : Good (p :: r)) {q : Nat} (hq : q ≤ p) (hb : b < q ^ k) (h : cnt r b ≤ K) : cnt (p :: r) b ≤ K * k :=
  Nat.le_trans (cnt_box g (Nat.lt_of_lt_of_le hb (Nat.pow_le_pow_left hq k))) (Nat.mul_le_mul_right _ h)
theorem st3 : ∀ p ∈ PR, 2 < p → 3 ≤ p := by decide
theorem st5 : ∀ p ∈ PR, 3 < p → 5 ≤ p := by decide
theorem st7 : ∀ p ∈ PR, 5 < p → 7 ≤ p := by decide
theorem st11 : ∀ p ∈ PR, 7 < p → 11 ≤ p := by decide
theorem st13 : ∀ p ∈ PR, 11 < p → 13 ≤ p := by decide
def QS : List Nat := [2, 3, 5, 7, 11, 13]
/-- the i-th of a row is no less than the i-th prime -/
theorem step_of : ∀ i, i < 5 → ∀ p ∈ PR, QS.getD i 0 < p → QS.getD (i + 1) 0 ≤ p := by decide
theorem row_at : ∀ (row : List Nat) (i : Nat), (∀ p ∈ row, p ∈ PR) → row.Pairwise (· < ·) → row.length + i ≤ 6 → (∀ p ∈ row, QS.getD i 0 ≤ p) → ∀ j p, row[j]? = some p → QS.getD (i + j) 0 ≤ p
  | [], _, _, _, _, _, j, p, h => by simp at h
  | a :: r, i, hm, hp, hl, hg, 0, p, h => by
    simp at h
    subst h
    exact hg a List.mem_cons_self
  | a :: r, i, hm, hp, hl, hg, j + 1, p, h => by
    have h' : r[j]? = some p := by simpa using h
    have := row_at r (i + 1) (fun p h => hm p (List.mem_cons_of_mem _ h)) (List.pairwise_cons.mp hp).2 (by simp at hl; omega) (fun p hpr => by
      have h1 := (List.pairwise_cons.mp hp).1 p hpr
      have h2 := hg a List.mem_cons_self
      have h3 : 0 < r.length := List.length_pos_of_mem hpr
      exact step_of i (by simp at hl; omega) p (hm p (List.mem_cons_of_mem _ hpr)) (by omega)) j p h'
    rw [show i + (j + 1) = i + 1 + j by omega]
    exact this
theorem Rw.at {row : List Nat} (w : Rw row) {j p : Nat} (h : row[j]? = some p) : QS.getD j 0 ≤ p := by
  have := row_at row 0 w.mem w.up (by have := w.le; omega) (fun p hp => (w.ge hp).1) j p h
  rwa [Nat.zero_add] at this
theorem cnt_boxes : ∀ (row qs ks : List Nat) (b : Nat), Good row → row.length ≤ qs.length → (∀ j p q : Nat, row[j]? = some p → qs[j]? = some q → q ≤ p) → ks.length = qs.length → (∀ (j q k : Nat), qs[j]? = some q → ks[j]? = some k → b < q ^ k) → (∀ k ∈ ks, 1 ≤ k) → cnt row b ≤ ks.foldr (· * ·) 1
  | [], qs, ks, b, _, _, _, _, _, h => by
    refine Nat.le_trans cnt_nil ?_
    revert h
    generalize ks = ks'
    intro h
    induction ks' with
    | nil => simp
    | cons k ks ih =>
      rw [List.foldr_cons]
      exact Nat.mul_pos (h k List.mem_cons_self) (ih fun k hk => h k (List.mem_cons_of_mem _ hk))
  | p :: r, [], ks, b, _, hl, _, _, _, _ => by simp at hl
  | p :: r, q :: qs, [], b, _, _, _, hl, _, _ => by simp at hl
  | p :: r, q :: qs, k :: ks, b, g, hl, hq, he, hb, hk => by
    have ih := cnt_boxes r qs ks b g.tail (by simpa using hl) (fun j p q h1 h2 => hq (j + 1) p q (by simpa using h1) (by simpa using h2)) (by simpa using he) (fun j q k h1 h2 => hb (j + 1) q k (by simpa using h1) (by simpa using h2)) fun k h => hk k (List.mem_cons_of_mem _ h)
    rw [List.foldr_cons, Nat.mul_comm]
    exact box1 g (hq 0 p q rfl rfl) (hb 0 q k rfl rfl) ih
theorem getD_take {n j q : Nat} (h : (QS.take n)[j]? = some q) : q = QS.getD j 0 := by
  rw [List.getElem?_take] at h
  split at h
  · rw [List.getD_eq_getElem?_getD, h]; rfl
  · cases h
theorem Rw.box {row : List Nat} (w : Rw row) (n : Nat) (ks : List Nat) (b : Nat) (hl : row.length ≤ (QS.take n).length) (he : ks.length = (QS.take n).length) (hb : ∀ (j q k : Nat), (QS.take n)[j]? = some q → ks[j]? = some k → b < q ^ k) (hk : ∀ k ∈ ks, 1 ≤ k) : cnt row b ≤ ks.foldr (· * ·) 1 :=
  cnt_boxes row (QS.take n) ks b w.good hl (fun j p q h1 h2 => by rw [getD_take h2]; exact w.at h1) he hb hk
theorem all_of {qs ks : List Nat} {B b : Nat} (h : ∀ x ∈ qs.zip ks, B < x.1 ^ x.2) (hb : b ≤ B) : ∀ (j q k : Nat), qs[j]? = some q → ks[j]? = some k → b < q ^ k := fun j q k h1 h2 => by
  have : (q, k) ∈ qs.zip ks := List.mem_iff_getElem?.mpr ⟨j, by rw [List.getElem?_zip_eq_some]; exact ⟨h1, h2⟩⟩
  exact Nat.lt_of_le_of_lt hb (h _ this)
theorem Rw.fit {row : List Nat} (w : Rw row) {b : Nat} (f : Fits row b) : cnt row b ≤ 9000000 := by
  rcases f with ⟨h1, h2⟩ | ⟨h1, h2⟩ | h
  · exact Nat.le_trans (w.box 4 [70, 45, 31, 25] b (by simpa [QS] using h1) rfl (all_of (B := 2 ^ 70 - 1) (by decide) (by omega)) (by decide)) (by decide)
  · exact Nat.le_trans (w.box 5 [37, 24, 16, 14, 11] b (by simpa [QS] using h1) rfl (all_of (B := 2 ^ 37 - 1) (by decide) (by omega)) (by decide)) (by decide)
  · exact Nat.le_trans (w.box 6 [31, 20, 14, 12, 9, 9] b (by simpa [QS] using w.le) rfl (all_of (B := 2 * 10 ^ 9) (by decide) (by omega)) (by decide)) (by decide)
end MA
set_option Elab.async false
set_option linter.all false
set_option maxRecDepth 100000
set_option maxHeartbeats 4000000
namespace Px
open PySem L2 MA
local macro_rules | `(tactic| bv_omega) => `(tactic| first | assumption | omega | exact cm (by omega) | exact cd (by omega) | exact cp (by omega) | exact trivial)
local macro_rules | `(tactic| array_get_dec) => `(tactic| first
  | assumption
  | exact sq_up
  | exact Own.sqi (by assumption) 0 (by rfl)
  | exact Own.sqi (by assumption) 1 (by rfl)
  | exact Own.sqi (by assumption) 2 (by rfl)
  | exact Own.sqi (by assumption) 3 (by rfl)
  | exact Own.sqi (by assumption) 4 (by rfl)
  | exact Own.sq (by assumption) (by assumption)
  | exact sq_new (by assumption) (by assumption))
local macro_rules | `(tactic| clean_wf) => `(tactic| first
  | with_reducible exact ev_c
  | (with_reducible apply ev_v') <;> rfl
  | (with_reducible apply ev_add) <;> clean_wf
  | (with_reducible apply ev_sub) <;> clean_wf
  | (with_reducible apply ev_mul) <;> clean_wf
  | (with_reducible apply ev_mod) <;> clean_wf
  | (with_reducible apply ev_div) <;> clean_wf
  | (with_reducible apply ev_pow) <;> clean_wf
  | (with_reducible apply ev_neg) <;> clean_wf
  | (with_reducible apply ev_lt) <;> clean_wf
  | (with_reducible apply ev_le) <;> clean_wf
  | (with_reducible apply ev_gt) <;> clean_wf
  | (with_reducible apply ev_ge) <;> clean_wf
  | (with_reducible apply ev_eqi) <;> clean_wf
  | (with_reducible apply ev_nei) <;> clean_wf
  | (with_reducible apply ev_len) <;> clean_wf
  | (with_reducible apply ev_ixL) <;> clean_wf
  | (with_reducible apply ev_min) <;> clean_wf
  | (with_reducible apply ev_max) <;> clean_wf
  | (with_reducible apply ev_abs) <;> clean_wf
  | (with_reducible apply ev_intB) <;> clean_wf
  | (with_reducible apply ea_1) <;> clean_wf
  | (with_reducible apply ea_2) <;> clean_wf
  | (with_reducible apply ea_3) <;> clean_wf
  | with_reducible exact ea_nil
  | (with_reducible apply ea_cons) <;> clean_wf
  | with_reducible exact el_nil
  | (with_reducible apply ep_lt) <;> clean_wf
  | (with_reducible apply ep_le) <;> clean_wf
  | (with_reducible apply ep_gt) <;> clean_wf
  | (with_reducible apply ep_ge) <;> clean_wf
  | (with_reducible apply ep_eqi) <;> clean_wf
  | (with_reducible apply ep_nei) <;> clean_wf
  | (with_reducible apply ep_not) <;> clean_wf
  | ((with_reducible apply ep_and) <;> first | (intro _; clean_wf; done) | clean_wf)
  | ((with_reducible apply ep_or) <;> first | (intro _; clean_wf; done) | clean_wf)
  | (with_reducible apply et_t) <;> clean_wf
  | (with_reducible apply eo_is) <;> clean_wf
  | with_reducible exact eo_no
  | array_get_dec
  | bv_omega
  | rfl
  | skip)
local macro_rules | `(tactic| symm_saturate) => `(tactic| first
  | ((with_reducible apply q_set); (focus (clean_wf; done)))
  | ((with_reducible apply s_set); (focus (clean_wf; done)))
  | ((with_reducible apply q_aug (hx := rfl)); (focus (clean_wf; done)))
  | ((with_reducible apply s_aug (hx := rfl)); (focus (clean_wf; done)))
  | ((with_reducible apply q_augC (hx := rfl)); (focus (clean_wf; done)))
  | ((with_reducible apply s_augC (hx := rfl)); (focus (clean_wf; done))))
local macro_rules | `(tactic| subst_eqs) => `(tactic| repeat' (first
  | with_reducible apply w_c
  | ((with_reducible apply w_v'); (focus rfl))
  | with_reducible apply w_op
  | with_reducible apply w_cb
  | with_reducible apply w_cons
  | with_reducible apply w_nil
  | with_reducible apply r_add
  | with_reducible apply r_sub
  | ((with_reducible apply r_mul); (focus (bv_omega; done)))
  | ((with_reducible apply r_div); (focus (bv_omega; done)))
  | ((with_reducible apply r_mod); (focus (bv_omega; done)))
  | ((with_reducible apply r_pow); (focus (bv_omega; done)))
  | with_reducible apply r_lt
  | with_reducible apply r_le
  | with_reducible apply r_gt
  | with_reducible apply r_ge
  | with_reducible apply r_min
  | with_reducible apply r_max
  | with_reducible apply r_intB
  | ((with_reducible apply r_len); (focus (array_get_dec; done)))
  | with_reducible apply w_callW
  | with_reducible apply q_setW
  | with_reducible apply s_setW
  | with_reducible apply s_retW))

abbrev zl (l : List Nat) : List Int := l.map fun (x : Nat) => (x : Int)
abbrev zv (l : List Nat) : List V := (zl l).map V.int
/-! ### the hand -/
abbrev hd (d s : Int) : List V := [.int d, .int s]
def HdOk (d s : Int) : Prop := 0 ≤ d ∧ 0 ≤ s ∧ s < 2147483587
def sp_law_hand (K : PySem.W.Frag) : Sp := fun vs H Q _ => Nod H ∧ ∃ (c k : Int), vs = [.int c, .int k] ∧ 0 ≤ k ∧ k < 1000 ∧ ∀ (p : Addr) (d s : Int), H p = none → HdOk d s → Q (.ref p) (upd H p (.lst (hd d s)))
def sp_law_draw (K : PySem.W.Frag) : Sp := fun vs H Q _ => Nod H ∧ ∃ (a : Addr) (d s m : Int), vs = [.ref a, .int m] ∧ H a = some (.lst (hd d s)) ∧ HdOk d s ∧ 0 < m ∧ m < 2 ^ 200 ∧
  ∀ (r d' s' : Int), 0 ≤ r → r < m → HdOk d' s' → Q (.int r) (upd H a (.lst (hd d' s')))
/-- a draw from a hand that is one's own -/
theorem Own.draw {K : PySem.W.Frag} {B H : Hp} {L : List (Addr × List V)} {p : Addr} {d s m : Int} {Q : VK} {E : XK} (o : Own B L H) (i : Nat) (h : L[i]? = some (p, hd d s)) (ok : HdOk d s) (m0 : 0 < m ∧ m < 2 ^ 200)
    (k : ∀ (r d' s' : Int) (H2 : Hp), 0 ≤ r ∧ r < m → HdOk d' s' → Own B (L.set i (p, hd d' s')) H2 → Q (.int r) H2) : sp_law_draw K ([.ref p, .int m] ++ []) H Q E :=
  ⟨o.nod, p, d, s, m, rfl, o.atI i h, ok, m0.1, m0.2, fun r d' s' h0 h1 ok' => k r d' s' _ ⟨h0, h1⟩ ok' (o.mut i h)⟩
/-! ### the cells -/
/-- what stands where _law_cells has told -/
structure Cells (H : Hp) (l : Addr) (as : List Addr) (ns : List Int) : Prop where
  lst : H l = some (.lst (as.map V.ref))
  len : as.length = ns.length
  tup : ∀ (i : Nat) (b : Addr) (c : Int), as[i]? = some b → ns[i]? = some c → H b = some (.tup [.int (i : Int), .int c])
theorem Cells.ex {H H' : Hp} {l : Addr} {as : List Addr} {ns : List Int} (c : Cells H l as ns) (e : Ex H H') : Cells H' l as ns := ⟨e _ _ c.lst, c.len, fun i b x h1 h2 => e _ _ (c.tup i b x h1 h2)⟩
def sp_law_cells (K : PySem.W.Frag) : Sp := fun vs H Q _ => Nod H ∧ ∃ (a : Addr) (ns : List Int) (m : Nat), vs = [.ref a, .int (m : Int)] ∧ SqL K H a (ns.map V.int) ∧ ns.length ≤ 63 ∧ 
  ∀ (l : Addr) (as : List Addr) (cs : List Int) (H' : Hp), cs.length ≤ 63 → Ex H H' → Nod H' → Cells H' l as cs → (∀ b u, H b = some u → l ≠ b ∧ b ∉ as) → Q (.ref l) H'
theorem nod_layT {H : Hp} (n : Nod H) : ∀ {as : List Addr} {xs : List V} {j : Nat}, Nod (layT H j as xs)
  | [], _, _ => n
  | _ :: _, [], _ => n
  | a :: as, x :: xs, j => by
    have := nod_layT n (as := as) (xs := xs) (j := j + 1)
    show Nod (upd (layT H (j + 1) as xs) a (.tup [.int (j : Int), x]))
    infer_instance
/-- what is forgotten on the way to the cells -/
theorem fg_cells {H H1 : Hp} [n : Nod H] {l : Addr} {as : List Addr} {xs : List V} (e : Ex H H1) (hl : H1 l = none) (hla : l ∉ as) (han : ∀ b ∈ as, H1 b = none) (nd : as.Nodup) (hlen : as.length = xs.length) :
    Fg H (upd (layT H1 0 as xs) l (.lst (as.map V.ref))) (upd (layT H 0 as xs) l (.lst (as.map V.ref))) := by
  refine fg_gen (fun a => a = l ∨ a ∈ as) (fun a u q z => ?_) (fun a z => ?_) (fun a q z => ?_)
  · have z1 : a ≠ l := fun y => z (.inl y)
    have z2 : a ∉ as := fun y => z (.inr y)
    exact ⟨by rw [upd_ne z1, layT_off z2]; exact e a u q, by rw [upd_ne z1, layT_off z2]; exact q⟩
  · by_cases h : a = l
    · subst h
      exact ⟨.lst (as.map V.ref), trivial, upd_same, upd_same, fun u q => by rw [e a u q] at hl; cases hl⟩
    · have hm : a ∈ as := z.resolve_left h
      obtain ⟨i, hi⟩ := List.mem_iff_getElem?.mp hm
      have hi2 : i < xs.length := by rw [← hlen]; exact (List.getElem?_eq_some_iff.mp hi).1
      have hx := List.getElem?_eq_getElem hi2
      exact ⟨.tup [.int ((0 + i : Nat) : Int), xs[i]], trivial, by rw [upd_ne h]; exact layT_at nd hi hx, by rw [upd_ne h]; exact layT_at nd hi hx, fun u q => by have := han a hm; rw [e a u q] at this; cases this⟩
  · have z1 : a ≠ l := fun y => z (.inl y)
    have z2 : a ∉ as := fun y => z (.inr y)
    rw [upd_ne z1, layT_off z2]; exact q
/-- slots: script many -/
abbrev n_law_cells : List Str := ["script", "many"]
def t_law_cells (K : PySem.W.Frag) : TS := (sFg (tRet (tEnumL K (tCons (tOp rCat (tSl (rSlL K) (tVar 0) tNoPart (tPart (tVar 1))) (tOp rRep (tLst (tCons (tC (.int 0)) tNil)) (tCB cInt (tCons (tOp (rEqD K) (tVar 0) (tLst tNil)) tNil)))) tNil))))
theorem r_law_cells {K : PySem.W.Frag} {vs : List V} {H : Hp} {Q : VK} {E : XK} (h : sp_law_cells K vs H Q E) : t_law_cells K { nx := fun _ H' => Q .non H', rt := Q } (start n_law_cells vs) H := by
  obtain ⟨nd, a, ns, m, rfl, ha, hl, q⟩ := h
  refine fg_body (s_retW ?_)
  show tOp rCat (tSl (rSlL K) (tVar 0) tNoPart (tPart (tVar 1))) _ _ H _
  refine w_op (w_evL (el_sl (ev_v 0) eo_no (eo_is (ev_v 1)) ha) fun p1 hp1 => ?_)
  rw [cut_to]
  have o1 : Own H [(p1, (ns.take m).map V.int)] (upd H p1 (.lst ((ns.take m).map V.int))) := Own.nil.new hp1
  refine w_op (w_evL (el_lst (ea_1 ev_c) (by simp)) fun p2 hp2 => ?_)
  have o2 := o1.new (xs := [.int 0]) hp2
  refine w_cb (w_one (w_op (w_v 0 (w_evL el_nil fun p3 hp3 => ?_))))
  have o3 := o2.new (xs := []) hp3
  refine rv_eqI (ns := ns) (ms := []) (o3.sq ha) (o3.sqi 0 rfl) _ (r_intB (w_rep1 (k := 1) (o3.atI 1 rfl) fun p4 hp4 => ?_))
  have o4 := o3.new (xs := (if decide (ns = []) then [V.int 0] else [])) hp4
  refine ⟨p1, p4, _, _, rfl, rfl, o4.atI 3 rfl, o4.atI 0 rfl, ?_, fun p5 hp5 => ?_⟩
  · refine Nat.le_trans (m := 100) ?_ (by decide)
    split <;> simp <;> omega
  have o5 := o4.new (xs := (ns.take m).map V.int ++ (if decide (ns = []) then [V.int 0] else [])) hp5
  have ex : ∃ cs : List Int, (ns.take m).map V.int ++ (if decide (ns = []) then [V.int 0] else []) = cs.map V.int ∧ cs.length ≤ 63 := by
    by_cases h0 : ns = []
    · subst h0
      exact ⟨[0], by simp, by simp⟩
    · exact ⟨ns.take m, by simp [h0], by rw [List.length_take]; omega⟩
  obtain ⟨cs, ecs, hcs⟩ := ex
  rw [ecs] at o5 ⊢
  refine ⟨p5, cs.map V.int, rfl, o5.sqi 0 rfl, fun l as h1 h2 h3 h4 h5 => ?_⟩
  refine ⟨_, fg_cells o5.ex h1 h2 h4 h3 h5, q l as cs _ hcs ?_ ?_ ⟨upd_same, by simpa using h5, fun i b c e1 e2 => ?_⟩ fun b u hb => ⟨fun z => ?_, fun z => ?_⟩⟩
  · intro b u hb
    have hb5 := o5.ex b u hb
    rw [upd_ne (ne_of_none hb5 h1), layT_off (fun z => by rw [h4 b z] at hb5; cases hb5)]
    exact hb
  · have := nod_layT nd (as := as) (xs := cs.map V.int) (j := 0)
    infer_instance
  · have hb : b ≠ l := fun z => h2 (z ▸ List.mem_of_getElem? e1)
    rw [upd_ne hb, layT_at h3 e1 (by rw [List.getElem?_map, e2]; rfl), Nat.zero_add]
  · subst z
    have := o5.ex _ _ hb
    rw [h1] at this
    cases this
  · have := o5.ex _ _ hb
    rw [h4 b z] at this
    cases this
/-- for k, cell in _law_cells(script, m): P of the slots; what is made in a turn may stay -/
theorem for_cells {K : PySem.W.Frag} {σ : L2.St} {H : Hp} {D : Ends} {tu s2 : TS} {ta : TA} {n1 n2 : Nat} {a : Addr} {ns : List Int} {m : Nat} [nd : Nod H] (h : EvA ta σ H [.ref a, .int (m : Int)]) (ha : SqL K H a (ns.map V.int)) (hl : ns.length ≤ 63) (P : L2.St → Prop) (h0 : P σ)
    (hs : ∀ (H1 : Hp), Ex H H1 → ∀ (k c : Int) σ' H', 0 ≤ k → k < 63 → P σ' → Ex H1 H' → Nod H' → tu { D with nx := fun σ2 H2 => P σ2 ∧ Ex H1 H2 ∧ Nod H2, ct := fun σ2 H2 => P σ2 ∧ Ex H1 H2 ∧ Nod H2, bk := s2 D } ((σ'.set n1 (some (.int k))).set n2 (some (.int c))) H')
    (hd : ∀ σ' H', P σ' → Ex H H' → Nod H' → s2 D σ' H') : tSeq (tFor (iList K (tCall (sp_law_cells K) [] E0 ta)) (gTup K 2 (gCons (gName n1) (gCons (gName n2) gNil))) tu) s2 D σ H := by
  refine q_seq (w_forL (w_call h ⟨nd, a, ns, m, rfl, ha, hl, fun l as cs H1 hc e1 n1' C _ => ⟨l, rfl, ⟨_, sq_at C.lst⟩, ?_⟩⟩))
  refine lp_list (xs := as.map V.ref) (fun i σ' H' => P σ' ∧ Ex H1 H' ∧ Nod H') ⟨h0, ex_refl, n1'⟩ (fun i σ' H' _ hv => sq_at (hv.2.1 _ _ C.lst)) (fun i x σ' H' hi hv => ?_) (fun σ' H' hv => hd σ' H' hv.1 (ex_trans e1 hv.2.1) hv.2.2)
  rw [List.getElem?_map] at hi
  cases e : as[i]? with
  | none => rw [e] at hi; cases hi
  | some b =>
    rw [e] at hi
    cases hi
    have hlt : i < cs.length := by rw [← C.len]; exact (List.getElem?_eq_some_iff.mp e).1
    have hx := List.getElem?_eq_getElem hlt
    refine ⟨b, _, rfl, st_at (hv.2.1 _ _ (C.tup i b _ e hx)), rfl, _, _, rfl, _, _, rfl, rfl, ?_⟩
    exact hs H1 e1 (i : Int) cs[i] σ' H' (by omega) (by omega) hv.1 hv.2.1 hv.2.2
end Px
set_option Elab.async false
set_option linter.all false
set_option maxRecDepth 100000
set_option maxHeartbeats 4000000
namespace Px
open PySem L2 MA
local macro_rules | `(tactic| bv_omega) => `(tactic| first | assumption | omega | exact cm (by omega) | exact cd (by omega) | exact cp (by omega) | exact trivial)
local macro_rules | `(tactic| array_get_dec) => `(tactic| first
  | assumption
  | exact sq_up
  | exact Own.sqi (by assumption) 0 (by rfl)
  | exact Own.sqi (by assumption) 1 (by rfl)
  | exact Own.sqi (by assumption) 2 (by rfl)
  | exact Own.sqi (by assumption) 3 (by rfl)
  | exact Own.sqi (by assumption) 4 (by rfl)
  | exact Own.sq (by assumption) (by assumption)
  | exact sq_new (by assumption) (by assumption))
local macro_rules | `(tactic| clean_wf) => `(tactic| first
  | with_reducible exact ev_c
  | (with_reducible apply ev_v') <;> rfl
  | (with_reducible apply ev_add) <;> clean_wf
  | (with_reducible apply ev_sub) <;> clean_wf
  | (with_reducible apply ev_mul) <;> clean_wf
  | (with_reducible apply ev_mod) <;> clean_wf
  | (with_reducible apply ev_div) <;> clean_wf
  | (with_reducible apply ev_pow) <;> clean_wf
  | (with_reducible apply ev_neg) <;> clean_wf
  | (with_reducible apply ev_lt) <;> clean_wf
  | (with_reducible apply ev_le) <;> clean_wf
  | (with_reducible apply ev_gt) <;> clean_wf
  | (with_reducible apply ev_ge) <;> clean_wf
  | (with_reducible apply ev_eqi) <;> clean_wf
  | (with_reducible apply ev_nei) <;> clean_wf
  | (with_reducible apply ev_len) <;> clean_wf
  | (with_reducible apply ev_ixL) <;> clean_wf
  | (with_reducible apply ev_min) <;> clean_wf
  | (with_reducible apply ev_max) <;> clean_wf
  | (with_reducible apply ev_abs) <;> clean_wf
  | (with_reducible apply ev_intB) <;> clean_wf
  | (with_reducible apply ea_1) <;> clean_wf
  | (with_reducible apply ea_2) <;> clean_wf
  | (with_reducible apply ea_3) <;> clean_wf
  | with_reducible exact ea_nil
  | (with_reducible apply ea_cons) <;> clean_wf
  | with_reducible exact el_nil
  | (with_reducible apply ep_lt) <;> clean_wf
  | (with_reducible apply ep_le) <;> clean_wf
  | (with_reducible apply ep_gt) <;> clean_wf
  | (with_reducible apply ep_ge) <;> clean_wf
  | (with_reducible apply ep_eqi) <;> clean_wf
  | (with_reducible apply ep_nei) <;> clean_wf
  | (with_reducible apply ep_not) <;> clean_wf
  | ((with_reducible apply ep_and) <;> first | (intro _; clean_wf; done) | clean_wf)
  | ((with_reducible apply ep_or) <;> first | (intro _; clean_wf; done) | clean_wf)
  | (with_reducible apply et_t) <;> clean_wf
  | (with_reducible apply eo_is) <;> clean_wf
  | with_reducible exact eo_no
  | array_get_dec
  | bv_omega
  | rfl
  | skip)
local macro_rules | `(tactic| symm_saturate) => `(tactic| first
  | ((with_reducible apply q_set); (focus (clean_wf; done)))
  | ((with_reducible apply s_set); (focus (clean_wf; done)))
  | ((with_reducible apply q_aug (hx := rfl)); (focus (clean_wf; done)))
  | ((with_reducible apply s_aug (hx := rfl)); (focus (clean_wf; done)))
  | ((with_reducible apply q_augC (hx := rfl)); (focus (clean_wf; done)))
  | ((with_reducible apply s_augC (hx := rfl)); (focus (clean_wf; done))))
local macro_rules | `(tactic| subst_eqs) => `(tactic| repeat' (first
  | with_reducible apply w_c
  | ((with_reducible apply w_v'); (focus rfl))
  | with_reducible apply w_op
  | with_reducible apply w_cb
  | with_reducible apply w_cons
  | with_reducible apply w_nil
  | with_reducible apply r_add
  | with_reducible apply r_sub
  | ((with_reducible apply r_mul); (focus (bv_omega; done)))
  | ((with_reducible apply r_div); (focus (bv_omega; done)))
  | ((with_reducible apply r_mod); (focus (bv_omega; done)))
  | ((with_reducible apply r_pow); (focus (bv_omega; done)))
  | with_reducible apply r_lt
  | with_reducible apply r_le
  | with_reducible apply r_gt
  | with_reducible apply r_ge
  | with_reducible apply r_min
  | with_reducible apply r_max
  | with_reducible apply r_intB
  | ((with_reducible apply r_len); (focus (array_get_dec; done)))
  | with_reducible apply w_callW
  | with_reducible apply q_setW
  | with_reducible apply s_setW
  | with_reducible apply s_retW))

theorem zl_perm {ns : List Int} {acc : List Nat} (p : ns.Perm (zl acc)) : ∃ l : List Nat, ns = zl l ∧ l.Perm acc := by
  refine ⟨ns.map Int.toNat, ?_, ?_⟩
  · have h : ∀ x ∈ ns, 0 ≤ x := fun x hx => by
      obtain ⟨y, _, rfl⟩ := List.mem_map.mp (p.mem_iff.mp hx)
      omega
    clear p
    induction ns with
    | nil => rfl
    | cons a l ih =>
      simp only [zl, List.map_cons] at ih ⊢
      rw [← ih fun x hx => h x (List.mem_cons_of_mem _ hx), Int.toNat_of_nonneg (h a List.mem_cons_self)]
  · have := p.map Int.toNat
    rw [show (zl acc).map Int.toNat = acc by simp [zl, Function.comp_def]] at this
    exact this
theorem zl_le {l : List Nat} (h : (zl l).Pairwise (· ≤ ·)) : l.Pairwise (· ≤ ·) := by
  rw [zl, List.pairwise_map] at h
  exact h.imp fun z => by omega
theorem zl_len (l : List Nat) : (zl l).length = l.length := List.length_map _
theorem zv_len (l : List Nat) : (zv l).length = l.length := by simp
theorem zv_get {l : List Nat} {i x : Nat} (h : l[i]? = some x) : (zv l)[i]? = some (.int (x : Int)) := by simp [h]
theorem zv_app (l m : List Nat) : zv (l ++ m) = zv l ++ zv m := by simp
theorem zv_at {l : List Nat} {i : Nat} (h : i < l.length) : atI (zv l) (i : Int) = some (.int ((l[i] : Nat) : Int)) := at_of rfl (zv_get (List.getElem?_eq_getElem h))
theorem List.eraseIdx_mapL {α β : Type} (f : α → β) : ∀ (l : List α) (i : Nat), (l.map f).eraseIdx i = (l.eraseIdx i).map f
  | [], _ => rfl
  | _ :: _, 0 => rfl
  | a :: l, i + 1 => by simp [List.eraseIdx_mapL f l i]
theorem erase_perm : ∀ {l : List Nat} {i : Nat} (h : i < l.length), l.Perm (l[i] :: l.eraseIdx i)
  | a :: l, 0, _ => .refl _
  | a :: l, i + 1, h => by
    have h' : i < l.length := by simpa using h
    exact ((erase_perm h').cons a).trans (.swap ..)
section
variable {K : PySem.W.Frag} {σ : L2.St} {H : Hp} {ta te : TE} {Q : VK}
theorem r_sortN {p : Addr} {acc : List Nat} (s : SqL K H p (zv acc)) (k : ∀ (l : List Nat) q, l.Perm acc → l.Pairwise (· ≤ ·) → H q = none → Q (.ref q) (upd H q (.lst (zv l)))) : rSortedI K [.ref p] H Q :=
  ⟨p, zl acc, rfl, s, fun ns' q hp hs hn => by
    obtain ⟨l, rfl, h⟩ := zl_perm hp
    exact k l q h (zl_le hs) hn⟩
theorem seq_ix {n : Nat} {i : Int} (h0 : 0 ≤ i) (h1 : i < n) : seqIndex? i n = some i.toNat := by
  obtain ⟨k, rfl⟩ : ∃ k : Nat, i = (k : Int) := ⟨i.toNat, by omega⟩
  unfold seqIndex?
  have h2 : k < n := by omega
  have h3 : ¬ (k : Int) < 0 := by omega
  simp [h2, h3]
theorem w_pop {a : Addr} {xs : List V} {t : TA} (ha : Ev ta σ H (.ref a)) (hx : SqL K H a xs) (ht : t σ H fun vs H2 => ∃ (ys : List V) (i : Int) (y : V), vs = [.int i] ∧ H2 a = some (.lst ys) ∧ 0 ≤ i ∧ i < ys.length ∧ i < 2 ^ 60 ∧ ys[i.toNat]? = some y ∧ Q y (upd H2 a (.lst (ys.eraseIdx i.toNat)))) (mono : ∀ Q1 Q2 : List V → Hp → Prop, (∀ v H1, Q1 v H1 → Q2 v H1) → t σ H Q1 → t σ H Q2) : tBM K "list" rPopAt ta t σ H Q :=
  ha _ ⟨.inl ⟨rfl, _, hx⟩, mono _ _ (fun vs H2 z => by
    obtain ⟨ys, i, y, rfl, h1, h2, h3, h4, h5, q⟩ := z
    exact ⟨a, ys, i, i.toNat, y, rfl, rfl, h1, by omega, by omega, seq_ix h2 h3, h5, q⟩) ht⟩
theorem w_popR {a : Addr} {xs : List V} {t : TA} (ha : Ev ta σ H (.ref a)) (hx : SqL K H a xs) (ht : t σ H fun vs H2 => rPopAt (.ref a) vs H2 Q) : tBM K "list" rPopAt ta t σ H Q := ha _ ⟨.inl ⟨rfl, _, hx⟩, ht⟩
theorem r_popN {a : Addr} {l : List Nat} {i : Nat} (h : H a = some (.lst (zv l))) (hi : i < l.length) (hz : i < 1000000) (k : Q (.int ((l[i] : Nat) : Int)) (upd H a (.lst (zv (l.eraseIdx i))))) : rPopAt (.ref a) [.int (i : Int)] H Q :=
  ⟨a, zv l, i, i, _, rfl, rfl, h, by omega, by omega, by rw [seq_ix (by omega) (by rw [zv_len]; omega)]; simp, zv_get (List.getElem?_eq_getElem hi), by
    have e : (zv l).eraseIdx i = zv (l.eraseIdx i) := by rw [zv, zl, List.map_map, List.eraseIdx_mapL, zv, zl, List.map_map]
    rw [e]
    exact k⟩
end
theorem pr_up : PR.Pairwise (· < ·) := by decide
/-! ### the bound of a row -/
def topN (row : List Nat) : Nat := if 4 < row.length then 10 ^ 9 else 10 ^ 18
theorem top_fits {row : List Nat} (w : Rw row) {b : Nat} (h : b ≤ topN row) : Fits row b := by
  unfold topN at h
  unfold Fits
  have := w.le
  split at h <;> omega
theorem top_ge {row : List Nat} : 10 ^ 9 ≤ topN row ∧ topN row ≤ 10 ^ 18 := by unfold topN; split <;> omega
def ten (k : Nat) : Str := PySem.Str.ofString "1" ++ Txt.mul (PySem.Str.ofString "0") (k : Int)
theorem ten_all : ∀ k : Fin 40, PySem.intText? (ten k) = some ((10 : Int) ^ (k : Nat)) ∧ (ten k).length ≤ 640 ∧ (PySem.Str.ofString "1").length + (Txt.mul (PySem.Str.ofString "0") ((k : Nat) : Int)).length ≤ 1000 := by decide +kernel
theorem ten_mul (k : Nat) (h : k < 40) : MulOk (PySem.Str.ofString "0") (k : Int) := PyProof.Rows.mulOk_of 1 40 (by decide +kernel) (by omega) (by omega) (by decide) (by decide)
theorem r_ten {σ : L2.St} {H : Hp} {Q : VK} {k : Nat} (hk : k < 40) (q : Q (.int (10 ^ k)) H) : oRepS (.str (PySem.Str.ofString "0")) (.int (k : Int)) H fun y H2 => oCatS (.str (PySem.Str.ofString "1")) y H2 fun x H3 => tNil σ H3 fun xs H4 => cIntS (x :: xs) H4 Q := by
  obtain ⟨h1, h2, h3⟩ := ten_all ⟨k, hk⟩
  exact ⟨_, (k : Int), rfl, rfl, ten_mul k hk, _, _, rfl, rfl, Nat.le_trans h3 (by decide), ten k, _, rfl, h1, h2, q⟩
def strLen (n : Nat) : Nat := (PySem.Str.ofString (toString (n : Int))).length
structure TopOk (top : Nat) : Prop where
  pos : 0 < top
  le : top ≤ 10 ^ 18
  l2 : 2 ≤ strLen top
  l40 : strLen top ≤ 20
theorem top6 : TopOk (10 ^ 6) := ⟨by decide, by decide, by decide +kernel, by decide +kernel⟩
theorem top9 : TopOk (10 ^ 9) := ⟨by decide, by decide, by decide +kernel, by decide +kernel⟩
theorem top18 : TopOk (10 ^ 18) := ⟨by decide, by decide, by decide +kernel, by decide +kernel⟩
theorem topN_ok {row : List Nat} : TopOk (topN row) := by
  unfold topN
  split
  · exact top9
  · exact top18
theorem r_strlen {H : Hp} {Q : VK} {σ : L2.St} {top : Nat} (t : TopOk top) (q : Q (.int (strLen top : Int)) H) : cStr [.int (top : Int)] H fun x H1 => tNil σ H1 fun xs H2 => cLenS (x :: xs) H2 Q := by
  refine ⟨_, rfl, ?_, _, rfl, ?_, q⟩
  · have h1 := t.le
    have h0 := t.pos
    show ((top : Int).natAbs).log2 < 1920
    rw [Int.natAbs_natCast]
    have : top.log2 < 60 := (Nat.log2_lt (by omega)).mpr (by omega)
    omega
  · exact Nat.le_trans t.l40 (by decide)
end Px
set_option linter.all false
set_option maxHeartbeats 1000000
namespace MA
/-! ### one prime more, place by place -/
structure Gr (r L : List Nat) (p b : Nat) (F : List Nat) (k : Nat) : Prop where
  nd : F.Nodup
  made : ∀ y ∈ F, Mk (p :: r) y ∧ y ≤ b
  hL : ∀ y ∈ L, y ∈ F
  done : ∀ j x, j < k → F[j]? = some x → x * p ≤ b → x * p ∈ F
  from_ : ∀ y ∈ F, y ∈ L ∨ ∃ j x, j < k ∧ F[j]? = some x ∧ y = x * p
theorem Gr.start {r L : List Nat} {p b : Nat} (h : IsAll r b L) : Gr r L p b L 0 := ⟨h.1, fun y hy => ⟨mk_mono (fun _ z => List.mem_cons_of_mem _ z) ((h.2 y).mp hy).1, ((h.2 y).mp hy).2⟩, fun _ h => h, fun j x h => by omega, fun y hy => .inl hy⟩
theorem Gr.stay {r L F : List Nat} {p b k x : Nat} (g : Gr r L p b F k) (hx : F[k]? = some x) (h : ¬ x * p ≤ b) : Gr r L p b F (k + 1) := ⟨g.nd, g.made, g.hL, fun j y hj hy hb => by
  by_cases e : j = k
  · subst e; rw [hx] at hy; cases hy; exact absurd hb h
  · exact g.done j y (by omega) hy hb, fun y hy => by
  rcases g.from_ y hy with z | ⟨j, x, h1, h2, h3⟩
  · exact .inl z
  · exact .inr ⟨j, x, by omega, h2, h3⟩⟩
theorem Gr.grow {r L F : List Nat} {p b k x : Nat} (g : Gr r L p b F k) (gd : Good (p :: r)) (h0 : IsAll r b L) (hx : F[k]? = some x) (h : x * p ≤ b) : Gr r L p b (F ++ [x * p]) (k + 1) := by
  have hk := (List.getElem?_eq_some_iff.mp hx).1
  have hp := gd.head
  have keep : ∀ j y, F[j]? = some y → (F ++ [x * p])[j]? = some y := fun j y hj => by rw [List.getElem?_append_left (List.getElem?_eq_some_iff.mp hj).1]; exact hj
  refine ⟨?_, fun y hy => ?_, fun y hy => List.mem_append_left _ (g.hL y hy), fun j y hj hy hb => ?_, fun y hy => ?_⟩
  · rw [List.nodup_append]
    refine ⟨g.nd, by simp, fun a ha c hc e => ?_⟩
    rw [List.mem_singleton] at hc
    subst e hc
    rcases g.from_ _ ha with z | ⟨j, x', h1, h2, h3⟩
    · exact gd.ndvd ((h0.2 _).mp z).1 ⟨x, Nat.mul_comm _ _⟩
    · have e : x = x' := Nat.eq_of_mul_eq_mul_right (by omega) h3
      subst e
      have := (List.getElem?_inj (by have := (List.getElem?_eq_some_iff.mp h2).1; omega) g.nd).mp (h2.trans hx.symm)
      omega
  · rcases List.mem_append.mp hy with z | z
    · exact g.made y z
    · rw [List.mem_singleton] at z
      subst z
      exact ⟨by rw [Nat.mul_comm]; exact .mul List.mem_cons_self (g.made x (List.mem_of_getElem? hx)).1, h⟩
  · by_cases hjk : j < k
    · have hj' : j < F.length := by omega
      rw [List.getElem?_append_left hj'] at hy
      exact List.mem_append_left _ (g.done j y hjk hy hb)
    · have e : j = k := by omega
      subst e
      rw [List.getElem?_append_left hk, hx] at hy
      cases hy
      exact List.mem_append_right _ (by simp)
  · rcases List.mem_append.mp hy with z | z
    · rcases g.from_ y z with z | ⟨j, x', h1, h2, h3⟩
      · exact .inl z
      · exact .inr ⟨j, x', by omega, keep j x' h2, h3⟩
    · exact .inr ⟨k, x, by omega, keep k x hx, List.mem_singleton.mp z⟩
theorem Gr.len {r L F : List Nat} {p b k : Nat} (g : Gr r L p b F k) : F.length ≤ cnt (p :: r) b := cnt_le g.nd g.made
theorem Gr.fin {r L F : List Nat} {p b : Nat} (g : Gr r L p b F F.length) (gd : Good (p :: r)) (h0 : IsAll r b L) : IsAll (p :: r) b F := MA.grow gd h0 g.nd g.made g.hL fun x hx hb => by
  obtain ⟨j, hj⟩ := List.mem_iff_getElem?.mp hx
  exact g.done j x (List.getElem?_eq_some_iff.mp hj).1 hj hb
/-! ### the rows' first part, prime by prime -/
theorem take_perm {row : List Nat} {i p : Nat} (h : row[i]? = some p) : (row.take (i + 1)).Perm (p :: row.take i) := by
  rw [List.take_add_one, h]
  exact List.perm_append_comm
theorem take_good {row : List Nat} {i p : Nat} (g : Good row) (h : row[i]? = some p) : Good (p :: row.take i) := (g.sub (List.take_sublist (i + 1) row)).perm (take_perm h).symm
theorem take_all {row F : List Nat} {i p b : Nat} (h : row[i]? = some p) (a : IsAll (p :: row.take i) b F) : IsAll (row.take (i + 1)) b F := a.congr fun q => (take_perm h).symm.mem_iff
theorem take_cnt {row : List Nat} {i p b : Nat} (h : row[i]? = some p) : cnt (p :: row.take i) b ≤ cnt row b := cnt_row fun q hq => List.mem_of_mem_take ((take_perm h).symm.mem_iff.mp hq)
/-! ### powers counted -/
theorem pwl_div {p b x : Nat} (hx : 0 < x) (hp : 2 ≤ p) : ∀ y, 0 < y → (pwl p b (x * y)).length = (pwl p (b / x) y).length := by
  intro y
  induction y using pwl.induct p (b / x) with
  | case1 y h ih =>
    intro hy
    have h1 : x * y ≤ b := by rw [Nat.mul_comm]; exact (Nat.le_div_iff_mul_le hx).mp h.2.2
    rw [pwl_yes hp hy h.2.2, pwl_yes hp (Nat.mul_pos hx hy) h1, List.length_cons, List.length_cons, Nat.mul_assoc, ih (Nat.mul_pos hy (by omega))]
  | case2 y h =>
    intro hy
    have h1 : ¬ y ≤ b / x := fun z => h ⟨hp, hy, z⟩
    have h2 : ¬ x * y ≤ b := fun z => h1 ((Nat.le_div_iff_mul_le hx).mpr (by rw [Nat.mul_comm]; exact z))
    rw [pwl_no (by omega), pwl_no (by omega)]
theorem pwl_div1 {p b x : Nat} (hx : 0 < x) (hp : 2 ≤ p) : (pwl p b x).length = (pwl p (b / x) 1).length := by
  have := pwl_div (b := b) hx hp 1 (by omega)
  rwa [Nat.mul_one] at this
/-! ### next, last -/
structure Gn (p b x y : Nat) : Prop where
  pw : ∃ k, y = x * p ^ k
  gt : b < y * p
  le : x ≤ b → y ≤ b
theorem Gn.ge {p b x y : Nat} (g : Gn p b x y) (hp : 2 ≤ p) : x ≤ y := by
  obtain ⟨k, rfl⟩ := g.pw
  exact Nat.le_mul_of_pos_right _ (Nat.pow_pos (by omega))
/-- the least power that is enough -/
theorem Gn.least {p b x y : Nat} (g : Gn p b x y) (hp : 2 ≤ p) (hxb : x ≤ b) (hx : 0 < x) {k : Nat} (h : b < x * p ^ k) : y * p ≤ x * p ^ k := by
  obtain ⟨⟨j, rfl⟩, gt, le⟩ := g
  have h1 := le hxb
  have hj : j < k := by
    rcases Nat.lt_or_ge j k with z | z
    · exact z
    · have : x * p ^ k ≤ x * p ^ j := Nat.mul_le_mul_left x (Nat.pow_le_pow_right (by omega) z)
      omega
  rw [Nat.mul_assoc, ← Nat.pow_succ]
  exact Nat.mul_le_mul_left x (Nat.pow_le_pow_right (by omega) hj)
theorem Gn.most {p b x y : Nat} (g : Gn p b x y) (hp : 2 ≤ p) (hx : 0 < x) {k : Nat} (h : x * p ^ k ≤ b) : x * p ^ k ≤ y := by
  obtain ⟨⟨j, rfl⟩, gt, le⟩ := g
  have hj : k ≤ j := by
    rcases Nat.lt_or_ge j k with z | z
    · have : x * p ^ (j + 1) ≤ x * p ^ k := Nat.mul_le_mul_left x (Nat.pow_le_pow_right (by omega) z)
      rw [Nat.pow_succ, ← Nat.mul_assoc] at this
      omega
    · exact z
  exact Nat.mul_le_mul_left x (Nat.pow_le_pow_right (by omega) hj)
theorem pow_le_self {x p k : Nat} (hp : 2 ≤ p) : x ≤ x * p ^ k := Nat.le_mul_of_pos_right _ (Nat.pow_pos (by omega))
/-- the best of all rests -/
theorem next_of {p : Nat} {r L : List Nat} {n b0 best : Nat} (g : Good (p :: r)) (hL : IsAll r b0 L) (h0 : Mk (p :: r) b0) (hb0 : n < b0) (hm : Mk (p :: r) best) (hg : n < best) (hle : best ≤ b0)
    (hall : ∀ x ∈ L, ∀ k, n < x * p ^ k → best ≤ x * p ^ k) : IsNext (p :: r) n best := ⟨hm, hg, fun m hmk hnm => by
  rcases Nat.lt_or_ge b0 m with z | z
  · omega
  · obtain ⟨k, x, rfl, hx⟩ := mk_cons.mp hmk
    exact hall x ((hL.2 x).mpr ⟨hx, Nat.le_trans (pow_le_self g.head) z⟩) k hnm⟩
theorem last_of {p : Nat} {r L : List Nat} {n best : Nat} (g : Good (p :: r)) (hL : IsAll r (n - 1) L) (hm : Mk (p :: r) best) (hg : best < n) (hall : ∀ x ∈ L, ∀ k, x * p ^ k ≤ n - 1 → x * p ^ k ≤ best) : IsLast (p :: r) n best := ⟨hm, hg, fun m hmk hnm => by
  obtain ⟨k, x, rfl, hx⟩ := mk_cons.mp hmk
  exact hall x ((hL.2 x).mpr ⟨hx, Nat.le_trans (pow_le_self (k := k) g.head) (by omega)⟩) k (by omega)⟩
theorem next_le {row : List Nat} {n m p : Nat} (h : IsNext row n m) (hn : Mk row n) (hp : p ∈ row) (h2 : 2 ≤ p) (hpos : 0 < n) : m ≤ n * p := h.le _ (by rw [Nat.mul_comm]; exact .mul hp hn) (by have : n * 2 ≤ n * p := Nat.mul_le_mul_left n h2; omega)
/-- a power of a prime of the row is never far -/
theorem next_far {row : List Nat} {n m p : Nat} (g : Good row) (h : IsNext row n m) (hp : p ∈ row) (hn : 0 < n) : m ≤ n * p := by
  have h2 := g.ge p hp
  have key : ∀ k, p ^ k ≤ n → ∃ j, p ^ j ≤ n ∧ n < p ^ (j + 1) := by
    intro k
    generalize e : n - p ^ k = d
    induction d using Nat.strongRecOn generalizing k with
    | ind d ih =>
      intro hk
      by_cases h3 : p ^ (k + 1) ≤ n
      · have h4 : p ^ k * 2 ≤ p ^ (k + 1) := by rw [Nat.pow_succ]; exact Nat.mul_le_mul_left _ h2
        have h5 : 0 < p ^ k := Nat.pow_pos (by omega)
        exact ih (n - p ^ (k + 1)) (by omega) (k + 1) rfl h3
      · exact ⟨k, hk, by omega⟩
  obtain ⟨j, h3, h4⟩ := key 0 (by rw [Nat.pow_zero]; exact hn)
  refine Nat.le_trans (h.le _ (mk_pow hp (j + 1)) h4) ?_
  rw [Nat.pow_succ]
  exact Nat.mul_le_mul_right p h3
/-! ### the first so many -/
def IsFst (row : List Nat) (m : Nat) (l : List Nat) : Prop := (m = 0 ∧ l = []) ∨ ∃ c, Mk row c ∧ cnt row c = m ∧ l = allL row c
theorem IsFst.len {row l : List Nat} {m : Nat} (h : IsFst row m l) : l.length = m := by
  rcases h with ⟨rfl, rfl⟩ | ⟨c, _, rfl, rfl⟩
  · rfl
  · rfl
theorem mk_inj {row : List Nat} {a b : Nat} (ha : Mk row a) (hb : Mk row b) (e : cnt row a = cnt row b) : a = b := by
  rcases Nat.lt_trichotomy a b with z | z | z
  · have := cnt_lt z hb; omega
  · exact z
  · have := cnt_lt z ha; omega
theorem IsFst.uniq {row l l' : List Nat} {m : Nat} (g : ∀ p ∈ row, 2 ≤ p) (h : IsFst row m l) (h' : IsFst row m l') : l = l' := by
  rcases h with ⟨rfl, rfl⟩ | ⟨c, h1, h2, rfl⟩
  · have := h'.len
    exact (List.length_eq_zero_iff.mp this).symm
  · rcases h' with ⟨rfl, rfl⟩ | ⟨c', h1', h2', rfl⟩
    · have := cnt_pos (row := row) (mk_pos g h1); omega
    · rw [mk_inj h1 h1' (h2.trans h2'.symm)]
theorem allL_last {row : List Nat} {c : Nat} (h : Mk row c) (h0 : 0 < c) : allL row c = allL row (c - 1) ++ [c] := by
  cases c with
  | zero => omega
  | succ c => exact allL_succ_yes h
theorem allL_next {row : List Nat} {n m : Nat} (h : IsNext row n m) : allL row m = allL row n ++ [m] := by
  have := h.gt
  rw [allL_last h.made (by omega), allL_gap (row := row) (a := n) (b := m - 1) (by omega) fun k h1 h2 hk => by have := h.le k hk h1; omega]
theorem get_lt {l : List Nat} (h : l.Pairwise (· < ·)) {i j x y : Nat} (hi : l[i]? = some x) (hj : l[j]? = some y) (hij : i < j) : x < y := by
  obtain ⟨h1, rfl⟩ := List.getElem?_eq_some_iff.mp hi
  obtain ⟨h2, rfl⟩ := List.getElem?_eq_some_iff.mp hj
  exact List.pairwise_iff_getElem.mp h i j h1 h2 hij
structure FS (row F pl : List Nat) (c : Nat) : Prop where
  mkc : Mk row c
  eq : F = allL row c
  len : pl.length = row.length
  ok : ∀ j p k : Nat, row[j]? = some p → pl[j]? = some k → ∃ x, F[k]? = some x ∧ c < x * p ∧ ∀ i y : Nat, i < k → F[i]? = some y → y * p ≤ c
theorem FS.start {row : List Nat} (g : ∀ p ∈ row, 2 ≤ p) : FS row [1] (List.replicate row.length 0) 1 := ⟨.one, by
  have : allL row 1 = allL row 0 ++ [1] := allL_succ_yes .one
  rw [this, show allL row 0 = [] from List.length_eq_zero_iff.mp (cnt_zero g)]; rfl, by simp, fun j p k h1 h2 => by
  rw [List.getElem?_replicate] at h2
  split at h2
  · cases h2
    have := g p (List.mem_of_getElem? h1)
    exact ⟨1, rfl, by omega, fun i y hi => by omega⟩
  · cases h2⟩
/-- the least of the products is the next one -/
theorem FS.next {row F pl : List Nat} {c m : Nat} (g : Good row) (f : FS row F pl c) (hm : ∃ j p k x : Nat, row[j]? = some p ∧ pl[j]? = some k ∧ F[k]? = some x ∧ m = x * p) (hle : ∀ j p k x : Nat, row[j]? = some p → pl[j]? = some k → F[k]? = some x → m ≤ x * p) : IsNext row c m := by
  obtain ⟨j, p, k, x, h1, h2, h3, rfl⟩ := hm
  obtain ⟨x', e1, e2, e3⟩ := f.ok j p k h1 h2
  rw [h3] at e1
  cases e1
  have hF : ∀ y ∈ F, Mk row y ∧ y ≤ c := fun y hy => by rw [f.eq] at hy; exact allL_mem.mp hy
  refine ⟨by rw [Nat.mul_comm]; exact .mul (List.mem_of_getElem? h1) (hF x (List.mem_of_getElem? h3)).1, e2, fun n hn hcn => ?_⟩
  have hc0 := mk_pos g.ge f.mkc
  obtain ⟨q, hq, n', rfl, hn'⟩ := mk_step hn (by omega)
  obtain ⟨i, hi⟩ := List.mem_iff_getElem?.mp hq
  have hil : i < pl.length := by rw [f.len]; exact (List.getElem?_eq_some_iff.mp hi).1
  obtain ⟨z, hz1, hz2, hz3⟩ := f.ok i q pl[i] hi (List.getElem?_eq_getElem hil)
  refine Nat.le_trans (hle i q pl[i] z hi (List.getElem?_eq_getElem hil) hz1) ?_
  rw [Nat.mul_comm q]
  refine Nat.mul_le_mul_right q ?_
  -- z ≤ n'
  rcases Nat.lt_or_ge c n' with h | h
  · have := (hF z (List.mem_of_getElem? hz1)).2; omega
  · have hmem : n' ∈ F := by rw [f.eq]; exact allL_mem.mpr ⟨hn', h⟩
    obtain ⟨t, ht⟩ := List.mem_iff_getElem?.mp hmem
    rcases Nat.lt_trichotomy t pl[i] with e | e | e
    · have := hz3 t n' e ht
      rw [Nat.mul_comm] at this
      omega
    · rw [e, hz1] at ht; cases ht; omega
    · have := get_lt (by rw [f.eq]; exact allL_pair _ _) hz1 ht e
      omega
theorem FS.step {row F pl pl' : List Nat} {c m : Nat} (f : FS row F pl c) (h : IsNext row c m) (hlen : pl'.length = pl.length) (hpl : ∀ j p k x : Nat, row[j]? = some p → pl[j]? = some k → F[k]? = some x → pl'[j]? = some (if x * p = m then k + 1 else k)) (hle : ∀ j p k x : Nat, row[j]? = some p → pl[j]? = some k → F[k]? = some x → m ≤ x * p) (g2 : ∀ p ∈ row, 2 ≤ p) : FS row (F ++ [m]) pl' m := by
  have eq : F ++ [m] = allL row m := by rw [allL_next h, f.eq]
  refine ⟨h.made, eq, by rw [hlen, f.len], fun j p k' h1 h2 => ?_⟩
  have hj : j < pl.length := by rw [f.len]; exact (List.getElem?_eq_some_iff.mp h1).1
  obtain ⟨x, e1, e2, e3⟩ := f.ok j p pl[j] h1 (List.getElem?_eq_getElem hj)
  have hp2 := g2 p (List.mem_of_getElem? h1)
  rw [hpl j p pl[j] x h1 (List.getElem?_eq_getElem hj) e1] at h2
  have hkl : pl[j] < F.length := (List.getElem?_eq_some_iff.mp e1).1
  have up : (F ++ [m]).Pairwise (· < ·) := by rw [eq]; exact allL_pair _ _
  have hx1 : (F ++ [m])[pl[j]]? = some x := by rw [List.getElem?_append_left hkl]; exact e1
  have old : ∀ i y, i < pl[j] → (F ++ [m])[i]? = some y → y * p ≤ c := fun i y hi hy => by
    rw [List.getElem?_append_left (by omega)] at hy
    exact e3 i y hi hy
  have hcm := h.gt
  by_cases e : x * p = m
  · rw [if_pos e] at h2
    cases h2
    have hl2 : pl[j] + 1 < (F ++ [m]).length := by simp; omega
    refine ⟨_, List.getElem?_eq_getElem hl2, ?_, fun i y hi hy => ?_⟩
    · have := get_lt up hx1 (List.getElem?_eq_getElem hl2) (by omega)
      have h5 := Nat.mul_lt_mul_of_pos_right this (show 0 < p by omega)
      omega
    · by_cases hi2 : i = pl[j]
      · subst hi2
        rw [hx1] at hy
        cases hy
        omega
      · have := old i y (by omega) hy
        omega
  · rw [if_neg e] at h2
    cases h2
    refine ⟨x, hx1, ?_, fun i y hi hy => ?_⟩
    · have := hle j p pl[j] x h1 (List.getElem?_eq_getElem hj) e1
      omega
    · have := old i y hi hy; omega
theorem FS.flen {row F pl : List Nat} {c : Nat} (f : FS row F pl c) : F.length = cnt row c := by rw [f.eq]; rfl
/-- the so-manieth is no greater than a bound to which there are so many -/
theorem fst_le {row : List Nat} {c m T : Nat} (hc : Mk row c) (h : cnt row c ≤ m) (hm : m ≤ cnt row T) : c ≤ T := by
  rcases Nat.lt_or_ge T c with z | z
  · have := cnt_lt z hc; omega
  · exact z
theorem Fits.lt {row : List Nat} {b : Nat} (f : Fits row b) : b < 2 ^ 70 := by unfold Fits at f; omega
theorem IsAll.sorted {row l : List Nat} {b : Nat} (h : IsAll row b l) {l' : List Nat} (p : l'.Perm l) (s : l'.Pairwise (· ≤ ·)) : l' = allL row b :=
  (h.of_perm p).eq ((s.and (h.of_perm p).1).imp fun {x y} z => by have := z.1; have := z.2; omega)
end MA
set_option Elab.async false
set_option linter.all false
set_option maxRecDepth 100000
set_option maxHeartbeats 4000000
namespace Px
open PySem L2 MA
local macro_rules | `(tactic| bv_omega) => `(tactic| first | assumption | omega | exact cm (by omega) | exact cd (by omega) | exact cp (by omega) | exact trivial)
local macro_rules | `(tactic| array_get_dec) => `(tactic| first
  | assumption
  | exact sq_up
  | exact Own.sqi (by assumption) 0 (by rfl)
  | exact Own.sqi (by assumption) 1 (by rfl)
  | exact Own.sqi (by assumption) 2 (by rfl)
  | exact Own.sqi (by assumption) 3 (by rfl)
  | exact Own.sqi (by assumption) 4 (by rfl)
  | exact Own.sq (by assumption) (by assumption)
  | exact sq_new (by assumption) (by assumption))
local macro_rules | `(tactic| clean_wf) => `(tactic| first
  | with_reducible exact ev_c
  | (with_reducible apply ev_v') <;> rfl
  | (with_reducible apply ev_add) <;> clean_wf
  | (with_reducible apply ev_sub) <;> clean_wf
  | (with_reducible apply ev_mul) <;> clean_wf
  | (with_reducible apply ev_mod) <;> clean_wf
  | (with_reducible apply ev_div) <;> clean_wf
  | (with_reducible apply ev_pow) <;> clean_wf
  | (with_reducible apply ev_neg) <;> clean_wf
  | (with_reducible apply ev_lt) <;> clean_wf
  | (with_reducible apply ev_le) <;> clean_wf
  | (with_reducible apply ev_gt) <;> clean_wf
  | (with_reducible apply ev_ge) <;> clean_wf
  | (with_reducible apply ev_eqi) <;> clean_wf
  | (with_reducible apply ev_nei) <;> clean_wf
  | (with_reducible apply ev_len) <;> clean_wf
  | (with_reducible apply ev_ixL) <;> clean_wf
  | (with_reducible apply ev_min) <;> clean_wf
  | (with_reducible apply ev_max) <;> clean_wf
  | (with_reducible apply ev_abs) <;> clean_wf
  | (with_reducible apply ev_intB) <;> clean_wf
  | (with_reducible apply ea_1) <;> clean_wf
  | (with_reducible apply ea_2) <;> clean_wf
  | (with_reducible apply ea_3) <;> clean_wf
  | with_reducible exact ea_nil
  | (with_reducible apply ea_cons) <;> clean_wf
  | with_reducible exact el_nil
  | (with_reducible apply ep_lt) <;> clean_wf
  | (with_reducible apply ep_le) <;> clean_wf
  | (with_reducible apply ep_gt) <;> clean_wf
  | (with_reducible apply ep_ge) <;> clean_wf
  | (with_reducible apply ep_eqi) <;> clean_wf
  | (with_reducible apply ep_nei) <;> clean_wf
  | (with_reducible apply ep_not) <;> clean_wf
  | ((with_reducible apply ep_and) <;> first | (intro _; clean_wf; done) | clean_wf)
  | ((with_reducible apply ep_or) <;> first | (intro _; clean_wf; done) | clean_wf)
  | (with_reducible apply et_t) <;> clean_wf
  | (with_reducible apply eo_is) <;> clean_wf
  | with_reducible exact eo_no
  | array_get_dec
  | bv_omega
  | rfl
  | skip)
local macro_rules | `(tactic| symm_saturate) => `(tactic| first
  | ((with_reducible apply q_set); (focus (clean_wf; done)))
  | ((with_reducible apply s_set); (focus (clean_wf; done)))
  | ((with_reducible apply q_aug (hx := rfl)); (focus (clean_wf; done)))
  | ((with_reducible apply s_aug (hx := rfl)); (focus (clean_wf; done)))
  | ((with_reducible apply q_augC (hx := rfl)); (focus (clean_wf; done)))
  | ((with_reducible apply s_augC (hx := rfl)); (focus (clean_wf; done))))
local macro_rules | `(tactic| subst_eqs) => `(tactic| repeat' (first
  | with_reducible apply w_c
  | ((with_reducible apply w_v'); (focus rfl))
  | with_reducible apply w_op
  | with_reducible apply w_cb
  | with_reducible apply w_cons
  | with_reducible apply w_nil
  | with_reducible apply r_add
  | with_reducible apply r_sub
  | ((with_reducible apply r_mul); (focus (bv_omega; done)))
  | ((with_reducible apply r_div); (focus (bv_omega; done)))
  | ((with_reducible apply r_mod); (focus (bv_omega; done)))
  | ((with_reducible apply r_pow); (focus (bv_omega; done)))
  | with_reducible apply r_lt
  | with_reducible apply r_le
  | with_reducible apply r_gt
  | with_reducible apply r_ge
  | with_reducible apply r_min
  | with_reducible apply r_max
  | with_reducible apply r_intB
  | ((with_reducible apply r_len); (focus (array_get_dec; done)))
  | with_reducible apply w_callW
  | with_reducible apply q_setW
  | with_reducible apply s_setW
  | with_reducible apply s_retW))

/-! ### comprehensions over zip -/
def LcAt (J : It) (g : TG) (tt : TT) (te : TE) (vs : List Nat) (σ : L2.St) (Q : VK) (H1 : Hp) : Prop := ∀ D, H1 D = none → ∃ W : Nat → Nat → Hp → Prop, (∃ m, W 0 m (upd H1 D (.lst []))) ∧ ∀ i m H, W i m H →
  (J.stop i H ∧ Q (.ref D) H) ∨ (J.go i H ∧ ∃ Nx : Hp → Prop, (∀ H', Nx H' → ∃ m', m' < m ∧ W (i + 1) m' H') ∧ ∀ x H', J.yld i H x H' → g x (wipe σ vs) H' fun σ2 H2 => wipe σ2 vs = wipe σ vs ∧ tt σ2 H2 fun b H3 =>
    if b = true then te σ2 H3 fun y H4 => ∃ acc, H4 D = some (.lst acc) ∧ acc.length < sizeLine ∧ Nx (upd H4 D (.lst (acc ++ [y]))) else Nx H3)
section
variable {K : PySem.W.Frag} {σ : L2.St} {H H1 : Hp} {ta : TA} {tt : TT} {te : TE} {vs : List Nat} {Q : VK} {a b : Addr} {xs ys : List V} {n1 n2 : Nat}
theorem w_lcZ {g : TG} (h : ta σ H fun us H1 => ∃ a b xs ys, us = [.ref a, .ref b] ∧ SqL K H1 a xs ∧ SqL K H1 b ys ∧ LcAt (Itz K a b) g tt te vs σ Q H1) : tLc (iZip K ta) g tt te vs σ H Q := h
theorem lcat_zip (Pv : Addr → Nat → Hp → Prop) (h0 : ∀ D, H1 D = none → Pv D 0 (upd H1 D (.lst []))) (hl : ∀ D i H', H1 D = none → Pv D i H' → SqL K H' a xs ∧ SqL K H' b ys) (hw : ∀ x y, wipe (((wipe σ vs).set n1 (some x)).set n2 (some y)) vs = wipe σ vs)
    (hs : ∀ D i x y T H', H1 D = none → xs[i]? = some x → ys[i]? = some y → Pv D i H' → H' T = none → tt (((wipe σ vs).set n1 (some x)).set n2 (some y)) (upd H' T (.tup [x, y])) fun c H3 =>
      if c = true then te (((wipe σ vs).set n1 (some x)).set n2 (some y)) H3 fun v H4 => ∃ acc, H4 D = some (.lst acc) ∧ acc.length < sizeLine ∧ Pv D (i + 1) (upd H4 D (.lst (acc ++ [v]))) else Pv D (i + 1) H3)
    (hd : ∀ D H', H1 D = none → Pv D (min xs.length ys.length) H' → Q (.ref D) H') : LcAt (Itz K a b) (gTup K 2 (gCons (gName n1) (gCons (gName n2) gNil))) tt te vs σ Q H1 := fun D hD =>
  lc_it (walk_zip (K := K) (a := a) (b := b) (xs := xs) (ys := ys) rfl) (Pv D) (h0 D hD) (fun i H' _ p => hl D i H' hD p) (fun i v H' H'' hi p y => by
    obtain ⟨T, x, y, rfl, hT, rfl, e1, e2⟩ := y
    exact ⟨T, _, rfl, st_at upd_same, rfl, _, _, rfl, _, _, rfl, rfl, hw x y, hs D i x y T H' hD e1 e2 p hT⟩) (fun H' p => hd D H' hD p)
end
section
variable {K : PySem.W.Frag} {σ : L2.St} {H H1 : Hp} {te tl : TE} {tt : TT} {vs : List Nat} {Q : VK} {a b : Addr} {n : Nat} {g : TG}
theorem w_lcLW (h : tl σ H fun x H1 => ∃ a, x = .ref a ∧ (∃ xs, SqL K H1 a xs) ∧ LcAt (Itl K a) g tt te vs σ Q H1) : tLc (iList K tl) g tt te vs σ H Q := h
/-- [te for i in ns], ns a list of ints that stands at a -/
theorem lcat_map {ns : List Int} (f : Int → Int) (hx : SqL K H1 a (ns.map V.int)) (hz : ns.length ≤ 16000000) (hw : ∀ x, wipe ((wipe σ vs).set n (some x)) vs = wipe σ vs)
    (he : ∀ i ∈ ns, ∀ D acc, H1 D = none → Ev te ((wipe σ vs).set n (some (.int i))) (upd H1 D (.lst acc)) (.int (f i))) (q : ∀ D, H1 D = none → Q (.ref D) (upd H1 D (.lst ((ns.map f).map V.int)))) : LcAt (Itl K a) (gName n) tYes te vs σ Q H1 := by
  obtain ⟨_, e, _, z⟩ := el_lcI (K := K) (H := H1) (tl := fun _ H Q => Q (.ref a) H) (t := tYes) (fun _ => true) f (fun _ z => z) hx hz hw (fun i hi D acc hD => et_yes) (fun i hi _ D acc hD => he i hi D acc hD) Q fun D hD => by
    rw [List.filter_eq_self.mpr (fun _ _ => rfl)]
    exact q D hD
  cases e
  exact z
/-- [te for i in ns if p(i)] -/
theorem lcat_filter {ns : List Int} (p : Int → Bool) (f : Int → Int) (hx : SqL K H1 a (ns.map V.int)) (hz : ns.length ≤ 16000000) (hw : ∀ x, wipe ((wipe σ vs).set n (some x)) vs = wipe σ vs)
    (ht : ∀ i ∈ ns, ∀ D acc, H1 D = none → EvT tt ((wipe σ vs).set n (some (.int i))) (upd H1 D (.lst acc)) (p i)) (he : ∀ i ∈ ns, p i = true → ∀ D acc, H1 D = none → Ev te ((wipe σ vs).set n (some (.int i))) (upd H1 D (.lst acc)) (.int (f i))) (q : ∀ D, H1 D = none → Q (.ref D) (upd H1 D (.lst (((ns.filter p).map f).map V.int)))) : LcAt (Itl K a) (gName n) tt te vs σ Q H1 := by
  obtain ⟨_, e, _, z⟩ := el_lcI (K := K) (H := H1) (tl := fun _ H Q => Q (.ref a) H) (t := tt) p f (fun _ z => z) hx hz hw ht he Q q
  cases e
  exact z
end
/-! ### rows -/
def sp_is_whole (K : PySem.W.Frag) : Sp := fun vs H Q _ => Nod H ∧ ∃ i : Int, vs = [.int i] ∧ Q (.bl true) H
/-- slots: thing -/
abbrev n_is_whole : List Str := ["thing"]
def t_is_whole (K : PySem.W.Frag) : TS := (sFg (tRet (tAndV (tCB (rIsi K) (tCons (tVar 0) (tCons (tC (.ty "int")) tNil))) (tNotV (tCB (rIsi K) (tCons (tVar 0) (tCons (tC (.ty "bool")) tNil)))))))
theorem r_is_whole {K : PySem.W.Frag} {vs : List V} {H : Hp} {Q : VK} {E : XK} (h : sp_is_whole K vs H Q E) : t_is_whole K { nx := fun _ H' => Q .non H', rt := Q } (start n_is_whole vs) H := by
  obtain ⟨nd, i, rfl, q⟩ := h
  exact fg_body (s_ret (ev_and (ev_isi (ev_v 0) ev_c (.ty "int") (.base (.int i)) (kit_ty (r := true) (by decide +kernel))) fun _ => ev_not (ev_isi (ev_v 0) ev_c (.ty "bool") (.base (.int i)) (kit_ty (r := false) (by decide +kernel)))) ⟨H, fg_same ex_refl, q⟩)
def sp_is_row (K : PySem.W.Frag) : Sp := fun vs H Q _ => Nod H ∧ ∃ (a : Addr) (row : List Nat), vs = [.ref a] ∧ H a = some (.lst (zv row)) ∧ Rw row ∧ row ≠ [] ∧ Q (.bl true) H
def PrAt (K : PySem.W.Frag) (aP : Addr) : Prop := ∀ H : Hp, SqL K H aP (zv PR)
/-- slots: thing one further -/
abbrev n_is_row : List Str := ["thing", "one", "further"]
def t_is_row (K : PySem.W.Frag) (a_PRIMES : Addr) : TS := (sFg (tSeq (tIfS (tOr (tNot (tB (tCB (rIsi K) (tCons (tVar 0) (tCons (tC (.ty "list")) tNil))))) (tNot (tTest (tChain oLe oLe (tC (.int 1)) (tCB (cLen K) (tCons (tVar 0) tNil)) (tC (.int 6)))))) (tRet (tC (.bl false))) tNext)
  (tSeq (tIfS (bFg (tTest (tOp (rNeD K) (tLc (iList K (tVar 0)) (gName 1) (tOr (tNot (tB (tCall (sp_is_whole K) [] E0 (tCons (tVar 1) tNil)))) (tTest (tOp (rIn K true) (tVar 1) (tC (.ref a_PRIMES))))) (tVar 1) [1]) (tLst tNil)))) (tRet (tC (.bl false))) tNext)
  (tRet (tFg (tOp (rEqD K) (tFg (tLc (iZip K (tCons (tVar 0) (tCons (tSl (rSlL K) (tVar 0) (tPart (tC (.int 1))) tNoPart) tNil))) (gTup K 2 (gCons (gName 1) (gCons (gName 2) gNil))) (tTest (tOp oLe (tVar 2) (tVar 1))) (tC (.int 1)) [1, 2])) (tLst tNil)))))))
theorem inV_iff {l : List Nat} {p : Nat} : inV (.int (p : Int)) (zv l) = decide (p ∈ l) := by
  induction l with
  | nil => rfl
  | cons a l ih =>
    show (eqV (.int (a : Int)) (.int (p : Int)) || inV (.int (p : Int)) (zv l)) = _
    rw [ih]
    have e : eqV (.int (a : Int)) (.int (p : Int)) = decide (a = p) := by
      show decide ((a : Int) = (p : Int)) = _
      exact decide_eq_decide.mpr (by omega)
    rw [e]
    by_cases h : a = p
    · subst h; simp
    · have h' : ¬ p = a := fun z => h z.symm
      simp [h, h']
theorem zv_0 {p : Nat} {r : List Nat} : atI (zv (p :: r)) 0 = some (.int (p : Int)) := zv_at (i := 0) (l := p :: r) (by simp)
theorem zv_flat (l : List Nat) : (zv l).all flatV = true := by
  rw [List.all_eq_true]
  intro x hx
  obtain ⟨i, _, rfl⟩ := mem_int hx
  rfl
theorem cut_fromN (l : List Nat) (k : Nat) : cutV (zv l) (some (k : Int)) none = zv (l.drop k) := by rw [cut_from]; simp
theorem cut_toN (l : List Nat) (k : Nat) : cutV (zv l) none (some (k : Int)) = zv (l.take k) := by rw [cut_to]; simp
theorem get_up {l : List Nat} (h : l.Pairwise (· < ·)) {i x y : Nat} (hi : l[i]? = some x) (hj : (l.drop 1)[i]? = some y) : x < y := by
  rw [List.getElem?_drop] at hj
  exact get_lt h hi hj (by omega)
theorem r_is_row {K : PySem.W.Frag} {aP : Addr} (hP : PrAt K aP) {vs : List V} {H : Hp} {Q : VK} {E : XK} (h : sp_is_row K vs H Q E) : t_is_row K aP { nx := fun _ H' => Q .non H', rt := Q } (start n_is_row vs) H := by
  obtain ⟨nd, a, row, rfl, ha, w, hne, q⟩ := h
  have sa : SqL K H a (zv row) := sq_at ha
  have hl := w.le
  have hl0 : 0 < row.length := List.length_pos_iff.mpr hne
  refine fg_body (q_never (ep_or (ep_not (ep_b (ev_isi (ev_v 0) ev_c (.ty "list") (.base (.lst ha)) (kit_ty (r := true) (by decide +kernel))))) fun _ => ep_not (ep_chain ev_c (ev_len (ev_v 0) sa) rv_0 (fun _ => ev_c) fun _ => rv_0)) (by rw [zv_len]; simp; omega) ?_)
  refine q_when (b := false) (et_eq (et_nonilN (ns := ((zl row).filter fun _ => false).map fun i => i) (el_lcI (fun _ => false) (fun i => i) (ev_v 0) sa (by rw [zl_len]; omega) (fun _ => rfl) (fun i hi D acc hD => ?_) fun i hi z => nomatch z)) (by simp)) (fun z => nomatch z) fun _ => ?_
  · obtain ⟨p, hp, rfl⟩ := List.mem_map.mp hi
    refine ep_no (ep_or (ep_not (ep_b (ev_call (v := .bl true) (ea_1 (ev_v 1)) fun Q q => ⟨inferInstance, _, rfl, q⟩))) fun _ => ep_of (et_t (ev_op (z := .bl false) (ev_v 1) ev_c fun Q q => ⟨aP, zv PR, rfl, .inl (hP _), rfl, zv_flat _, ?_⟩))) (by simp)
    rw [inV_iff, decide_eq_true (w.mem p hp)]
    exact q
  · refine s_ret (v := .bl true) (ev_fg fun Q q => w_op (el_fg (fun Q q => w_lcZ ?_) _ fun p hp => el_nil _ fun p2 hp2 => rv_eqI (ns := []) (ms := []) (sq_new hp2 sq_up) sq_up _ (q _ (ex_upd (none_upd hp2).1 (ex_new hp))))) ⟨H, fg_same ex_refl, q⟩
    refine w_cons (w_v 0 (w_one (w_evL (el_sl (ev_v 0) (eo_is ev_c) eo_no sa) fun p1 hp1 => ?_)))
    have o : Own H [(p1, zv (row.drop 1))] (upd H p1 (.lst (cutV (zv row) (some 1) none))) := by rw [show (1 : Int) = ((1 : Nat) : Int) from rfl, cut_fromN]; exact Own.nil.new hp1
    refine ⟨a, p1, zv row, zv (row.drop 1), rfl, o.sq sa, o.sqi 0 rfl, lcat_zip (fun D i H' => Own H [(D, []), (p1, zv (row.drop 1))] H') (fun D hD => o.new hD) (fun D i H' hD o => ⟨o.sq sa, o.sqi 1 rfl⟩) (fun x y => rfl) (fun D i x y T H' hD hx hy o hT => ?_) fun D H' hD o => q D H' (o.offI 0 rfl) o.ex (o.atI 0 rfl)⟩
    simp only [List.getElem?_map] at hx hy
    cases e1 : row[i]? with
    | none => rw [e1] at hx; cases hx
    | some x' =>
      cases e2 : (row.drop 1)[i]? with
      | none => rw [e2] at hy; cases hy
      | some y' =>
        rw [e1] at hx
        rw [e2] at hy
        cases hx
        cases hy
        have := get_up w.up e1 e2
        exact ep_no (ep_le (i := (y' : Int)) (j := (x' : Int)) (ev_v 2) (ev_v 1)) (by omega) _ (iteF (o.tup hT))
def sp_need_row (K : PySem.W.Frag) : Sp := fun vs H Q _ => Nod H ∧ ∃ (a : Addr) (row : List Nat), vs = [.ref a] ∧ H a = some (.lst (zv row)) ∧ Rw row ∧ row ≠ [] ∧ Q .non H
/-- slots: row -/
abbrev n_need_row : List Str := ["row"]
def t_need_row (K : PySem.W.Frag) : TS := (sFg (tIfS (tNot (tB (tCall (sp_is_row K) [] E0 (tCons (tVar 0) tNil)))) tNever tNext))
theorem r_need_row {K : PySem.W.Frag} {vs : List V} {H : Hp} {Q : VK} {E : XK} (h : sp_need_row K vs H Q E) : t_need_row K { nx := fun _ H' => Q .non H', rt := Q } (start n_need_row vs) H := by
  obtain ⟨nd, a, row, rfl, ha, w, hne, q⟩ := h
  exact fg_body (s_whenP (ep_not (ep_b (ev_call (v := .bl true) (ea_1 (ev_v 0)) fun Q q => ⟨nd, a, row, rfl, ha, w, hne, q⟩))) (fun z => absurd rfl z) fun _ => ⟨H, fg_same ex_refl, q⟩)
/-! ### made, not made -/
def sp_is_made (K : PySem.W.Frag) : Sp := fun vs H Q _ => Nod H ∧ ∃ (a : Addr) (row : List Nat) (n : Nat), vs = [.ref a, .int (n : Int)] ∧ SqL K H a (zv row) ∧ Rw row ∧ 0 < n ∧ Q (.bl (decide (stripAll row n = 1))) H
/-- slots: row number prime -/
abbrev n_is_made : List Str := ["row", "number", "prime"]
def t_is_made (K : PySem.W.Frag) : TS := (sFg (tSeq (tFor (iList K (tVar 0)) (gName 2) (tWhile (tTest (tOp rEq (tOp oMod (tVar 1) (tVar 2)) (tC (.int 0)))) (tAug 1 (tVar 2) (ipC CDivW fun i j => i / j))))
  (tRet (tOp rEq (tVar 1) (tC (.int 1))))))
theorem r_is_made {K : PySem.W.Frag} {vs : List V} {H : Hp} {Q : VK} {E : XK} (h : sp_is_made K vs H Q E) : t_is_made K { nx := fun _ H' => Q .non H', rt := Q } (start n_is_made vs) H := by
  obtain ⟨nd, a, row, n, rfl, ha, w, hn, q⟩ := h
  refine fg_body (q_forI (ev_v 0) ha (fun i σ' H' => ∃ (k : Nat) (y : Option V), σ' = [some (.ref a), some (.int k), y] ∧ H' = H ∧ 0 < k ∧ stripAll (row.drop i) k = stripAll row n) ⟨n, none, rfl, rfl, hn, rfl⟩ (fun i σ' H' _ hv => ?_) (fun i x σ' H' hx hv => ?_) (fun σ' H' hv => ?_))
  · obtain ⟨k, y, _, rfl, _⟩ := hv
    exact ha
  · obtain ⟨k, y, rfl, rfl, hk, he⟩ := hv
    rw [List.getElem?_map] at hx
    cases e : row[i]? with
    | none => rw [e] at hx; cases hx
    | some p =>
      rw [e] at hx
      cases hx
      have hlt := (List.getElem?_eq_some_iff.mp e).1
      have hp := w.ge (List.mem_of_getElem? e)
      have hdr : row.drop i = p :: row.drop (i + 1) := by
        rw [List.drop_eq_getElem_cons hlt]
        congr 1
        exact (List.getElem?_eq_some_iff.mp e).2
      rw [hdr] at he
      refine s_whileP (fun m σ' H'' => ∃ j : Nat, σ' = [some (.ref a), some (.int j), some (.int p)] ∧ H'' = H' ∧ j = m ∧ 0 < j ∧ strip p j = strip p k) k ⟨k, rfl, rfl, rfl, hk, rfl⟩ (fun m σ' H'' hw => ?_)
      obtain ⟨j, rfl, rfl, rfl, hj, hs⟩ := hw
      refine ⟨_, ep_eqi (ev_mod (ev_v 1) (ev_v 2) (by omega)) ev_c, fun hb => ?_, fun hb => ?_⟩
      · have hm : j % p = 0 := by omega
        have hdl : j / p < j := Nat.div_lt_self hj (by omega)
        refine s_augC (a := (j : Int)) (b := (p : Int)) (ev_v 2) ⟨j / p, hdl, j / p, by simp, rfl, rfl, ?_, ?_⟩ (cd (by omega))
        · exact Nat.div_pos (Nat.le_of_dvd hj (Nat.dvd_of_mod_eq_zero hm)) (by omega)
        · rw [← hs, strip_yes (by omega) hj hm]
      · have hm : j % p ≠ 0 := by omega
        rw [strip_no hm] at hs
        refine ⟨j, some (.int p), rfl, rfl, hj, ?_⟩
        rw [hs]
        exact he
  · obtain ⟨k, y, rfl, rfl, hk, he⟩ := hv
    rw [zl_len, List.drop_length] at he
    refine s_ret (ev_eqi (ev_v 1) ev_c) ⟨_, fg_same ex_refl, ?_⟩
    have : decide ((k : Int) = 1) = decide (stripAll row n = 1) := by
      rw [← he]
      exact decide_eq_decide.mpr ⟨fun z => by have : k = 1 := by omega
                                              exact this, fun z => by have : k = 1 := z
                                                                      omega⟩
    rw [this]
    exact q
open Classical in
def sp_is_made_of (K : PySem.W.Frag) : Sp := fun vs H Q _ => Nod H ∧ ∃ (a : Addr) (row : List Nat) (n : Nat), vs = [.ref a, .int (n : Int)] ∧ H a = some (.lst (zv row)) ∧ Rw row ∧ row ≠ [] ∧ Q (.bl (decide (0 < n ∧ Mk row n))) H
/-- slots: row thing -/
abbrev n_is_made_of : List Str := ["row", "thing"]
def t_is_made_of (K : PySem.W.Frag) : TS := (sFg (tSeq (tDrop (tCall (sp_need_row K) [] E0 (tCons (tVar 0) tNil)))
  (tRet (tAndV (tCall (sp_is_whole K) [] E0 (tCons (tVar 1) tNil)) (tAndV (tOp oGt (tVar 1) (tC (.int 0))) (tCall (sp_is_made K) [] E0 (tCons (tVar 0) (tCons (tVar 1) tNil))))))))
theorem r_is_made_of {K : PySem.W.Frag} {vs : List V} {H : Hp} {Q : VK} {E : XK} (h : sp_is_made_of K vs H Q E) : t_is_made_of K { nx := fun _ H' => Q .non H', rt := Q } (start n_is_made_of vs) H := by
  obtain ⟨nd, a, row, n, rfl, ha, w, hne, q⟩ := h
  refine fg_body (q_drop (ev_call (v := .non) (ea_1 (ev_v 0)) (fun Q q => ⟨nd, a, row, rfl, ha, w, hne, q⟩) _ ?_))
  refine s_ret (ev_eq (ev_and (ev_call (v := .bl true) (ea_1 (ev_v 1)) fun Q q => ⟨nd, _, rfl, q⟩) fun _ => ev_and (b := decide (stripAll row n = 1)) (ev_gt (ev_v 1) ev_c) fun hb => ev_call (ea_2 (ev_v 0) (ev_v 1)) fun Q q => ⟨nd, a, row, n, rfl, sq_at ha, w, ?_, q⟩) ?_) ⟨H, fg_same ex_refl, q⟩
  · have := of_decide_eq_true hb; omega
  · congr 1
    by_cases h0 : 0 < n
    · have e := stripAll_iff w.good h0
      by_cases hm : Mk row n
      · simp [h0, hm, e.mpr hm]
      · have : ¬ stripAll row n = 1 := fun z => hm (e.mp z)
        simp [hm, this]
    · have h00 : n = 0 := by omega
      subst h00
      simp
end Px
set_option Elab.async false
set_option linter.all false
set_option maxRecDepth 100000
set_option maxHeartbeats 4000000
namespace Px
open PySem L2 MA
local macro_rules | `(tactic| bv_omega) => `(tactic| first | assumption | omega | exact cm (by omega) | exact cd (by omega) | exact cp (by omega) | exact trivial)
local macro_rules | `(tactic| array_get_dec) => `(tactic| first
  | assumption
  | exact sq_up
  | exact Own.sqi (by assumption) 0 (by rfl)
  | exact Own.sqi (by assumption) 1 (by rfl)
  | exact Own.sqi (by assumption) 2 (by rfl)
  | exact Own.sqi (by assumption) 3 (by rfl)
  | exact Own.sqi (by assumption) 4 (by rfl)
  | exact Own.sq (by assumption) (by assumption)
  | exact sq_new (by assumption) (by assumption))
local macro_rules | `(tactic| clean_wf) => `(tactic| first
  | with_reducible exact ev_c
  | (with_reducible apply ev_v') <;> rfl
  | (with_reducible apply ev_add) <;> clean_wf
  | (with_reducible apply ev_sub) <;> clean_wf
  | (with_reducible apply ev_mul) <;> clean_wf
  | (with_reducible apply ev_mod) <;> clean_wf
  | (with_reducible apply ev_div) <;> clean_wf
  | (with_reducible apply ev_pow) <;> clean_wf
  | (with_reducible apply ev_neg) <;> clean_wf
  | (with_reducible apply ev_lt) <;> clean_wf
  | (with_reducible apply ev_le) <;> clean_wf
  | (with_reducible apply ev_gt) <;> clean_wf
  | (with_reducible apply ev_ge) <;> clean_wf
  | (with_reducible apply ev_eqi) <;> clean_wf
  | (with_reducible apply ev_nei) <;> clean_wf
  | (with_reducible apply ev_len) <;> clean_wf
  | (with_reducible apply ev_ixL) <;> clean_wf
  | (with_reducible apply ev_min) <;> clean_wf
  | (with_reducible apply ev_max) <;> clean_wf
  | (with_reducible apply ev_abs) <;> clean_wf
  | (with_reducible apply ev_intB) <;> clean_wf
  | (with_reducible apply ea_1) <;> clean_wf
  | (with_reducible apply ea_2) <;> clean_wf
  | (with_reducible apply ea_3) <;> clean_wf
  | with_reducible exact ea_nil
  | (with_reducible apply ea_cons) <;> clean_wf
  | with_reducible exact el_nil
  | (with_reducible apply ep_lt) <;> clean_wf
  | (with_reducible apply ep_le) <;> clean_wf
  | (with_reducible apply ep_gt) <;> clean_wf
  | (with_reducible apply ep_ge) <;> clean_wf
  | (with_reducible apply ep_eqi) <;> clean_wf
  | (with_reducible apply ep_nei) <;> clean_wf
  | (with_reducible apply ep_not) <;> clean_wf
  | ((with_reducible apply ep_and) <;> first | (intro _; clean_wf; done) | clean_wf)
  | ((with_reducible apply ep_or) <;> first | (intro _; clean_wf; done) | clean_wf)
  | (with_reducible apply et_t) <;> clean_wf
  | (with_reducible apply eo_is) <;> clean_wf
  | with_reducible exact eo_no
  | array_get_dec
  | bv_omega
  | rfl
  | skip)
local macro_rules | `(tactic| symm_saturate) => `(tactic| first
  | ((with_reducible apply q_set); (focus (clean_wf; done)))
  | ((with_reducible apply s_set); (focus (clean_wf; done)))
  | ((with_reducible apply q_aug (hx := rfl)); (focus (clean_wf; done)))
  | ((with_reducible apply s_aug (hx := rfl)); (focus (clean_wf; done)))
  | ((with_reducible apply q_augC (hx := rfl)); (focus (clean_wf; done)))
  | ((with_reducible apply s_augC (hx := rfl)); (focus (clean_wf; done))))
local macro_rules | `(tactic| subst_eqs) => `(tactic| repeat' (first
  | with_reducible apply w_c
  | ((with_reducible apply w_v'); (focus rfl))
  | with_reducible apply w_op
  | with_reducible apply w_cb
  | with_reducible apply w_cons
  | with_reducible apply w_nil
  | with_reducible apply r_add
  | with_reducible apply r_sub
  | ((with_reducible apply r_mul); (focus (bv_omega; done)))
  | ((with_reducible apply r_div); (focus (bv_omega; done)))
  | ((with_reducible apply r_mod); (focus (bv_omega; done)))
  | ((with_reducible apply r_pow); (focus (bv_omega; done)))
  | with_reducible apply r_lt
  | with_reducible apply r_le
  | with_reducible apply r_gt
  | with_reducible apply r_ge
  | with_reducible apply r_min
  | with_reducible apply r_max
  | with_reducible apply r_intB
  | ((with_reducible apply r_len); (focus (array_get_dec; done)))
  | with_reducible apply w_callW
  | with_reducible apply q_setW
  | with_reducible apply s_setW
  | with_reducible apply s_retW))

/-! ### all to a bound, in any order -/
def sp_made_to (K : PySem.W.Frag) : Sp := fun vs H Q _ => Nod H ∧ ∃ (a : Addr) (row : List Nat) (b : Nat), vs = [.ref a, .int (b : Int)] ∧ H a = some (.lst (zv row)) ∧ Rw row ∧ Fits row b ∧
  ∀ (p : Addr) (l : List Nat), H p = none → IsAll row b l → Q (.ref p) (upd H p (.lst (zv l)))
/-- slots: row bound found prime at -/
abbrev n_made_to : List Str := ["row", "bound", "found", "prime", "at"]
def t_made_to (K : PySem.W.Frag) : TS := (sFg (tSeq (tAsg (tFg (tOp rRep (tLst (tCons (tC (.int 1)) tNil)) (tCB cInt (tCons (tOp oGt (tVar 1) (tC (.int 0))) tNil)))) (gName 2))
  (tSeq (tFor (iList K (tVar 0)) (gName 3) (tSeq (tAsg (tC (.int 0)) (gName 4))
  (tWhile (tTest (tOp oLt (tVar 4) (tCB (cLen K) (tCons (tVar 2) tNil)))) (tSeq (tIfS (tTest (tOp oLe (tOp oMul (tOp (rIxL K) (tVar 2) (tVar 4)) (tVar 3)) (tVar 1))) (tDrop (tBM K "list" rAppend (tVar 2) (tCons (tOp oMul (tOp (rIxL K) (tVar 2) (tVar 4)) (tVar 3)) tNil))) tNext)
  (tAug 4 (tC (.int 1)) (ipI fun i j => i + j))))))
  (tRet (tVar 2)))))
theorem zv_one (b : Nat) (F : List Nat) : (zv F) ++ [V.int (b : Int)] = zv (F ++ [b]) := by simp
theorem s_appN {K : PySem.W.Frag} {σ : L2.St} {H : Hp} {ta te : TE} {l : Addr} {F : List Nat} {x : Nat} {D : Ends} (hz : F.length < 16000000) (ha : Ev ta σ (upd H l (.lst (zv F))) (.ref l)) (h : Ev te σ (upd H l (.lst (zv F))) (.int (x : Int))) (k : D.nx σ (upd H l (.lst (zv (F ++ [x]))))) : tDrop (tBM K "list" rAppend ta (tCons te tNil)) D σ (upd H l (.lst (zv F))) :=
  s_app upd_same (by rw [zv_len]; exact szl hz) ha h (by rw [upd_upd, zv_one]; exact k)
theorem r_made_to {K : PySem.W.Frag} {vs : List V} {H : Hp} {Q : VK} {E : XK} (h : sp_made_to K vs H Q E) : t_made_to K { nx := fun _ H' => Q .non H', rt := Q } (start n_made_to vs) H := by
  obtain ⟨nd, a, row, b, rfl, ha, w, f, q⟩ := h
  have g := w.good
  have hfit := w.fit f
  have hb := f.lt
  refine fg_body (q_setL (xs := zv (if 0 < b then [1] else [])) (el_fg fun Q q => w_op (w_evL (el_lst (ea_1 ev_c) (by simp)) fun p1 hp1 => ?_)) fun p hp => ?_)
  · refine w_cb (w_one (w_op (w_v 1 (w_c (r_gt (r_intB (w_rep1 (k := 1) upd_same fun p2 hp2 => ?_)))))))
    obtain ⟨h1, h2⟩ := none_upd hp2
    refine q p2 _ h1 (ex_upd h1 (ex_new hp1)) ?_
    rw [upd_same]
    by_cases h0 : 0 < b
    · simp [h0]
    · have : b = 0 := by omega
      subst this; simp
  have hap : a ≠ p := ne_of_none ha hp
  have sa : ∀ o, SqL K (upd H p o) a (zv row) := fun o => sq_at (by rw [upd_ne hap]; exact ha)
  refine q_forI (ns := zl row) (ev_v 0) (sa _) (fun i σ' H' => ∃ (F : List Nat) (y3 y4 : Option V), σ' = [some (.ref a), some (.int b), some (.ref p), y3, y4] ∧ H' = upd H p (.lst (zv F)) ∧ IsAll (row.take i) b F) ⟨_, none, none, rfl, rfl, ?_⟩ (fun i σ' H' _ hv => ?_) (fun i x σ' H' hx hv => ?_) (fun σ' H' hv => ?_)
  · rw [List.take_zero]
    by_cases h0 : 0 < b
    · rw [if_pos h0]; exact all_nil h0
    · rw [if_neg h0, show b = 0 by omega]; exact all_zero fun _ h => (List.not_mem_nil h).elim
  · obtain ⟨F, y3, y4, _, rfl, _⟩ := hv
    exact sa _
  · obtain ⟨L, y3, y4, rfl, rfl, hL⟩ := hv
    rw [List.getElem?_map] at hx
    cases e : row[i]? with
    | none => rw [e] at hx; cases hx
    | some pr =>
      rw [e] at hx
      cases hx
      have gd := take_good g e
      have hp2 := w.ge (List.mem_of_getElem? e)
      have hcap : cnt (pr :: row.take i) b ≤ 9000000 := Nat.le_trans (take_cnt e) hfit
      refine q_set ev_c (s_whileP (fun m σ' H' => ∃ (F : List Nat) (k : Nat), σ' = [some (.ref a), some (.int b), some (.ref p), some (.int (pr : Int)), some (.int (k : Int))] ∧ H' = upd H p (.lst (zv F)) ∧ m = 9000000 - k ∧ k ≤ F.length ∧ Gr (row.take i) L pr b F k) 9000000 ⟨L, 0, rfl, rfl, rfl, by omega, .start hL⟩ (fun m σ' H' hw => ?_))
      obtain ⟨F, k, rfl, rfl, rfl, hk, G⟩ := hw
      have hF := G.len
      refine ⟨_, ep_lt (ev_v 4) (ev_len (ev_v 2) sq_up), fun hc => ?_, fun hc => ?_⟩
      · rw [zv_len] at hc
        have hk2 : k < F.length := by omega
        have hgk := List.getElem?_eq_getElem hk2
        have hx := G.made _ (List.getElem_mem hk2)
        have at_ := zv_at hk2
        generalize F[k] = x at hgk hx at_
        have hxp : (x : Int) * (pr : Int) = ((x * pr : Nat) : Int) := by simp
        refine q_whenI (fun σ' H' => ∃ F' : List Nat, σ' = [some (.ref a), some (.int b), some (.ref p), some (.int (pr : Int)), some (.int (k : Int))] ∧ H' = upd H p (.lst (zv F')) ∧ k < F'.length ∧ Gr (row.take i) L pr b F' (k + 1)) (ep_le (ev_mul (ev_ixL (ev_v 2) (ev_v 4) sq_up at_) (ev_v 3) (cm (by omega))) (ev_v 1)) (fun hle N hN => ?_) (fun hle => ⟨F, rfl, rfl, hk2, G.stay hgk (by omega)⟩) fun σ' H' hI => ?_
        · refine s_appN (x := x * pr) (by omega) (ev_v 2) (ev_eq (ev_mul (ev_ixL (ev_v 2) (ev_v 4) sq_up at_) (ev_v 3) (cm (by omega))) (by rw [hxp])) (hN _ _ ⟨_, rfl, rfl, by simp; omega, G.grow gd hL hgk (by omega)⟩)
        · obtain ⟨F', rfl, rfl, hk', G'⟩ := hI
          have := G'.len
          exact s_aug (a := (k : Int)) ev_c ⟨9000000 - (k + 1), by omega, F', k + 1, rfl, rfl, rfl, by omega, G'⟩
      · rw [zv_len] at hc
        have hkl : k = F.length := by omega
        subst hkl
        exact ⟨F, _, _, rfl, rfl, take_all e (G.fin gd hL)⟩
  · obtain ⟨F, y3, y4, rfl, rfl, hF⟩ := hv
    rw [zl_len, List.take_length] at hF
    exact s_ret (ev_v 2) ⟨_, fg_newL hp (ex_new hp) upd_same, q p F hp hF⟩
/-! ### in order -/
def sp_all_to (K : PySem.W.Frag) : Sp := fun vs H Q _ => Nod H ∧ ∃ (a : Addr) (row : List Nat) (b : Nat), vs = [.ref a, .int (b : Int)] ∧ H a = some (.lst (zv row)) ∧ Rw row ∧ row ≠ [] ∧ Fits row b ∧
  ∀ (p : Addr), H p = none → Q (.ref p) (upd H p (.lst (zv (allL row b))))
/-- slots: row bound -/
abbrev n_all_to : List Str := ["row", "bound"]
def t_all_to (K : PySem.W.Frag) : TS := (sFg (tSeq (tDrop (tCall (sp_need_row K) [] E0 (tCons (tVar 0) tNil)))
  (tRet (tFg (tCB (rSortedI K) (tCons (tCall (sp_made_to K) [] E0 (tCons (tVar 0) (tCons (tVar 1) tNil))) tNil))))))
theorem need {K : PySem.W.Frag} {σ : L2.St} {H : Hp} {D : Ends} {s2 : TS} {a : Addr} {row : List Nat} [nd : Nod H] (h0 : σ[0]? = some (some (.ref a))) (ha : H a = some (.lst (zv row))) (w : Rw row) (hne : row ≠ []) (k : s2 D σ H) : tSeq (tDrop (tCall (sp_need_row K) [] E0 (tCons (tVar 0) tNil))) s2 D σ H :=
  q_drop (ev_call (v := .non) (ea_1 (ev_v' h0)) (fun Q q => ⟨nd, a, row, rfl, ha, w, hne, q⟩) _ k)
theorem r_all_to {K : PySem.W.Frag} {vs : List V} {H : Hp} {Q : VK} {E : XK} (h : sp_all_to K vs H Q E) : t_all_to K { nx := fun _ H' => Q .non H', rt := Q } (start n_all_to vs) H := by
  obtain ⟨nd, a, row, b, rfl, ha, w, hne, f, q⟩ := h
  refine fg_body (need rfl ha w hne (s_retL (el_fg fun Q q => w_cb (w_one (w_call (ea_2 (ev_v 0) (ev_v 1)) ⟨nd, a, row, b, rfl, ha, w, f, fun p l hp hl => r_sortN sq_up fun l' p2 h1 h2 hp2 => ?_⟩))) fun p hp => ⟨_, fg_newL hp (ex_new hp) upd_same, q p hp⟩))
  obtain ⟨h3, h4⟩ := none_upd hp2
  rw [hl.sorted h1 h2]
  exact q p2 _ h3 (ex_upd h3 (ex_new hp)) upd_same
/-! ### grown -/
def sp_grown (K : PySem.W.Frag) : Sp := fun vs H Q _ => Nod H ∧ ∃ (x p b : Nat), vs = [.int (x : Int), .int (p : Int), .int (b : Int)] ∧ 0 < x ∧ x < 2 ^ 100 ∧ 2 ≤ p ∧ p ≤ 97 ∧ b < 2 ^ 100 ∧ ∀ y, Gn p b x y → Q (.int (y : Int)) H
/-- slots: number prime bound -/
abbrev n_grown : List Str := ["number", "prime", "bound"]
def t_grown (K : PySem.W.Frag) : TS := (sFg (tSeq (tWhile (tTest (tOp oLe (tOp oMul (tVar 0) (tVar 1)) (tVar 2))) (tAug 0 (tVar 1) (ipC CMulW fun i j => i * j)))
  (tRet (tVar 0))))
theorem r_grown {K : PySem.W.Frag} {vs : List V} {H : Hp} {Q : VK} {E : XK} (h : sp_grown K vs H Q E) : t_grown K { nx := fun _ H' => Q .non H', rt := Q } (start n_grown vs) H := by
  obtain ⟨nd, x, p, b, rfl, hx, hx2, hp, hp2, hb, q⟩ := h
  refine fg_body (q_whileP (fun m σ' H' => ∃ (y : Nat), σ' = [some (.int (y : Int)), some (.int (p : Int)), some (.int (b : Int))] ∧ H' = H ∧ m = 2 ^ 100 - y ∧ 0 < y ∧ y < 2 ^ 100 ∧ (∃ k, y = x * p ^ k) ∧ (x ≤ b → y ≤ b)) (2 ^ 100 - x) ⟨x, rfl, rfl, rfl, hx, hx2, ⟨0, by simp⟩, fun h => h⟩ (fun m σ' H' hw => ?_))
  obtain ⟨y, rfl, rfl, rfl, hy, hy2, ⟨k, hk⟩, hle⟩ := hw
  have hyp : (y : Int) * (p : Int) = ((y * p : Nat) : Int) := by simp
  have h2 : y * 2 ≤ y * p := Nat.mul_le_mul_left y hp
  refine ⟨_, ep_le (ev_mul (ev_v 0) (ev_v 1) (cm (by omega))) (ev_v 2), fun hc => ?_, fun hc => ?_⟩
  · rw [hyp] at hc
    exact s_augC (a := (y : Int)) (b := (p : Int)) (ev_v 1) ⟨2 ^ 100 - y * p, by omega, y * p, by rw [hyp]; rfl, rfl, rfl, by omega, by omega, ⟨k + 1, by rw [hk, Nat.pow_succ, Nat.mul_assoc]⟩, fun _ => by omega⟩ (cm (by omega))
  · rw [hyp] at hc
    exact s_ret (ev_v 0) ⟨_, fg_same ex_refl, q y ⟨⟨k, hk⟩, by omega, hle⟩⟩
/-! ### counted -/
def sp_how_often (K : PySem.W.Frag) : Sp := fun vs H Q _ => Nod H ∧ ∃ (p b : Nat), vs = [.int (p : Int), .int (b : Int)] ∧ 2 ≤ p ∧ p ≤ 97 ∧ b < 2 ^ 100 ∧ Q (.int ((pwl p b 1).length : Int)) H
/-- slots: prime bound found power -/
abbrev n_how_often : List Str := ["prime", "bound", "found", "power"]
def t_how_often (K : PySem.W.Frag) : TS := (sFg (tSeq (tAsg (tC (.int 0)) (gName 2))
  (tSeq (tAsg (tC (.int 1)) (gName 3))
  (tSeq (tWhile (tTest (tOp oLe (tVar 3) (tVar 1))) (tSeq (tAug 2 (tC (.int 1)) (ipI fun i j => i + j))
  (tAug 3 (tVar 0) (ipC CMulW fun i j => i * j))))
  (tRet (tVar 2))))))
theorem r_how_often {K : PySem.W.Frag} {vs : List V} {H : Hp} {Q : VK} {E : XK} (h : sp_how_often K vs H Q E) : t_how_often K { nx := fun _ H' => Q .non H', rt := Q } (start n_how_often vs) H := by
  obtain ⟨nd, p, b, rfl, hp, hp2, hb, q⟩ := h
  refine fg_body (q_set ev_c (q_set ev_c (q_whileP (fun m σ' H' => ∃ (k y : Nat), σ' = [some (.int (p : Int)), some (.int (b : Int)), some (.int (k : Int)), some (.int (y : Int))] ∧ H' = H ∧ m = 2 ^ 110 - y ∧ 0 < y ∧ y < 2 ^ 110 ∧ k + (pwl p b y).length = (pwl p b 1).length) (2 ^ 110 - 1) ⟨0, 1, rfl, rfl, rfl, by omega, by omega, by omega⟩ (fun m σ' H' hw => ?_))))
  obtain ⟨k, y, rfl, rfl, rfl, hy, hy2, he⟩ := hw
  have hyp : (y : Int) * (p : Int) = ((y * p : Nat) : Int) := by simp
  have h2 : y * 2 ≤ y * p := Nat.mul_le_mul_left y hp
  refine ⟨_, ep_le (ev_v 3) (ev_v 1), fun hc => ?_, fun hc => ?_⟩
  · have hyb : y ≤ b := by omega
    have h3 : y * p ≤ 2 ^ 100 * 97 := Nat.mul_le_mul (by omega) hp2
    rw [pwl_yes hp hy hyb, List.length_cons] at he
    refine q_aug (a := (k : Int)) ev_c (s_augC (a := (y : Int)) (b := (p : Int)) (ev_v 0) ⟨2 ^ 110 - y * p, by omega, k + 1, y * p, ?_, rfl, rfl, by omega, by omega, by omega⟩ (cm (by omega)))
    rw [hyp]; rfl
  · rw [pwl_no (by omega), List.length_nil] at he
    have e : k = (pwl p b 1).length := by omega
    rw [← e] at q
    exact s_ret (ev_v 2) ⟨_, fg_same ex_refl, q⟩
def sp_many_to (K : PySem.W.Frag) : Sp := fun vs H Q _ => Nod H ∧ ∃ (a : Addr) (row : List Nat) (b : Nat), vs = [.ref a, .int (b : Int)] ∧ H a = some (.lst (zv row)) ∧ Rw row ∧ row ≠ [] ∧ Fits row b ∧ Q (.int (cnt row b : Int)) H
/-- slots: row bound rest -/
abbrev n_many_to : List Str := ["row", "bound", "rest"]
def t_many_to (K : PySem.W.Frag) : TS := (sFg (tSeq (tDrop (tCall (sp_need_row K) [] E0 (tCons (tVar 0) tNil)))
  (tRet (tFg (tCB (rSum K) (tCons (tFg (tLc (iList K (tFg (tCall (sp_made_to K) [] E0 (tCons (tSl (rSlL K) (tVar 0) (tPart (tC (.int 1))) tNoPart) (tCons (tVar 1) tNil))))) (gName 2) tYes (tCall (sp_how_often K) [] E0 (tCons (tOp (rIxL K) (tVar 0) (tC (.int 0))) (tCons (tOp oDiv (tVar 1) (tVar 2)) tNil))) [2])) tNil))))))
/-- made_to(row[1:], b) -/
theorem el_rest {K : PySem.W.Frag} {σ : L2.St} {H : Hp} [nd : Nod H] {te : TE} {a : Addr} {p b : Nat} {r : List Nat} (h0 : σ[0]? = some (some (.ref a))) (ha : H a = some (.lst (zv (p :: r)))) (w : Rw (p :: r)) (f : Fits r b) (hb : ∀ H1, Ev te σ H1 (.int (b : Int))) {Q : VK} (q : ∀ l q, IsAll r b l → H q = none → Q (.ref q) (upd H q (.lst (zv l)))) :
    tFg (tCall (sp_made_to K) [] E0 (tCons (tSl (rSlL K) (tVar 0) (tPart (tC (.int 1))) tNoPart) (tCons te tNil))) σ H Q := by
  refine w_callW (w_cons (w_evL (el_sl (ev_v' h0) (eo_is ev_c) eo_no (sq_at ha)) fun p1 hp1 => w_one (w_ev (hb _) ?_)))
  rw [show (1 : Int) = ((1 : Nat) : Int) from rfl, cut_fromN]
  refine ⟨inferInstance, p1, r, b, rfl, upd_same, w.tail, f, fun p2 l hp2 hl => ?_⟩
  obtain ⟨h1, h2⟩ := none_upd hp2
  exact ⟨_, fg_newL h1 (ex_upd h1 (ex_new hp1)) upd_same, q l p2 hl h1⟩
theorem sum_zl {f : Nat → Nat} (l : List Nat) : (((zl l).map fun i : Int => (f i.toNat : Int)).sum) = ((l.map f).sum : Nat) := by
  induction l with
  | nil => rfl
  | cons a l ih =>
    simp only [zl, List.map_cons, List.sum_cons] at ih ⊢
    rw [ih]
    simp
theorem r_many_to {K : PySem.W.Frag} {vs : List V} {H : Hp} {Q : VK} {E : XK} (h : sp_many_to K vs H Q E) : t_many_to K { nx := fun _ H' => Q .non H', rt := Q } (start n_many_to vs) H := by
  obtain ⟨nd, a, row, b, rfl, ha, w, hne, f, q⟩ := h
  obtain ⟨p, r, rfl⟩ := List.exists_cons_of_ne_nil hne
  have f' : Fits r b := f.sub (by simp)
  have hp := w.ge List.mem_cons_self
  have hb := f.lt
  refine fg_body (need rfl ha w hne (s_ret (v := .int (cnt (p :: r) b : Int)) (ev_fg fun Q q => w_cb (w_one ?_)) ⟨H, fg_same ex_refl, q⟩))
  refine w_fg (w_lcLW (el_rest rfl ha w f' (fun H1 => ev_v 1) fun l p1 hl hp1 => ⟨p1, rfl, ⟨_, sq_up⟩, lcat_map (fun i => ((pwl p (b / i.toNat) 1).length : Int)) sq_up ?_ (fun _ => rfl) (fun i hi D acc hD => ?_) fun D hD => ?_⟩))
  · rw [zl_len, hl.len]
    exact Nat.le_trans (w.tail.fit f') (by omega)
  · obtain ⟨x, hx, rfl⟩ := List.mem_map.mp hi
    have hx0 := mk_pos w.tail.good.ge ((hl.2 x).mp hx).1
    obtain ⟨hD1, hD2⟩ := none_upd hD
    have hxb := ((hl.2 x).mp hx).2
    have hdb : b / x ≤ b := Nat.div_le_self _ _
    have hap : a ≠ p1 := ne_of_none ha hp1
    have haD : a ≠ D := ne_of_none ha hD1
    refine ev_call (ea_2 (ev_ixL (i := 0) (v := .int (p : Int)) (ev_v 0) ev_c (sq_at (by rw [upd_ne haD, upd_ne hap]; exact ha)) zv_0) (ev_eq (ev_div (ev_v 1) (ev_v 2) (cd (by omega))) (show V.int ((b : Int) / (x : Int)) = .int ((b / x : Nat) : Int) by simp))) fun Q q => ⟨inferInstance, p, b / x, rfl, hp.1, hp.2, by omega, ?_⟩
    simpa using q
  · obtain ⟨hD1, hD2⟩ := none_upd hD
    refine ⟨_, fg_newL hD1 (ex_upd hD1 (ex_new hp1)) upd_same, ?_⟩
    refine ⟨D, _, rfl, sq_up, ?_⟩
    have e : (((zl l).map fun i : Int => ((pwl p (b / i.toNat) 1).length : Int)).sum) = (cnt (p :: r) b : Int) := by
      rw [sum_zl (f := fun x => (pwl p (b / x) 1).length), cnt_sum w.good hl]
      congr 2
      refine List.map_congr_left fun x hx => (pwl_div1 (mk_pos w.tail.good.ge ((hl.2 x).mp hx).1) hp.1).symm
    rw [e]
    exact q _ (ex_new hD1)
def sp_many_between (K : PySem.W.Frag) : Sp := fun vs H Q _ => Nod H ∧ ∃ (a : Addr) (row : List Nat) (lo hi : Nat), vs = [.ref a, .int (lo : Int), .int (hi : Int)] ∧ H a = some (.lst (zv row)) ∧ Rw row ∧ row ≠ [] ∧ Fits row hi ∧
  Q (.int (if hi < lo then 0 else (cnt row hi : Int) - (cnt row (lo - 1) : Int))) H
/-- slots: row low high -/
abbrev n_many_between : List Str := ["row", "low", "high"]
def t_many_between (K : PySem.W.Frag) : TS := (sFg (tSeq (tDrop (tCall (sp_need_row K) [] E0 (tCons (tVar 0) tNil)))
  (tSeq (tIfS (tTest (tOp oGt (tVar 1) (tVar 2))) (tRet (tC (.int 0))) tNext)
  (tRet (tOp oSub (tCall (sp_many_to K) [] E0 (tCons (tVar 0) (tCons (tVar 2) tNil))) (tCall (sp_many_to K) [] E0 (tCons (tVar 0) (tCons (tCB cMax (tCons (tC (.int 0)) (tCons (tOp oSub (tVar 1) (tC (.int 1))) tNil))) tNil))))))))
theorem r_many_between {K : PySem.W.Frag} {vs : List V} {H : Hp} {Q : VK} {E : XK} (h : sp_many_between K vs H Q E) : t_many_between K { nx := fun _ H' => Q .non H', rt := Q } (start n_many_between vs) H := by
  obtain ⟨nd, a, row, lo, hi, rfl, ha, w, hne, f, q⟩ := h
  refine fg_body (need rfl ha w hne (q_whenP (by clean_wf) (fun hc => ?_) fun hc => ?_))
  · rw [if_pos (by omega)] at q
    exact s_ret ev_c ⟨H, fg_same ex_refl, q⟩
  · rw [if_neg (by omega)] at q
    refine s_ret (ev_sub (ev_call (ea_2 (ev_v 0) (ev_v 2)) fun Q q => ⟨nd, a, row, hi, rfl, ha, w, hne, f, q⟩) (ev_call (ea_2 (ev_v 0) (ev_eq (y := .int ((lo - 1 : Nat) : Int)) (ev_max ev_c (ev_sub (ev_v 1) ev_c)) (by congr 1; split <;> omega))) fun Q q => ⟨nd, a, row, lo - 1, rfl, ha, w, hne, f.mono (by omega), q⟩)) ⟨H, fg_same ex_refl, q⟩
/-! ### next and last -/
def sp_next_one (K : PySem.W.Frag) : Sp := fun vs H Q _ => Nod H ∧ ∃ (a : Addr) (row : List Nat) (n : Nat), vs = [.ref a, .int (n : Int)] ∧ H a = some (.lst (zv row)) ∧ Rw row ∧ row ≠ [] ∧ Fits (row.drop 1) (n * 97) ∧ n < 2 ^ 63 ∧
  ∀ m, IsNext row n m → Q (.int (m : Int)) H
/-- slots: row number best rest -/
abbrev n_next_one : List Str := ["row", "number", "best", "rest"]
def t_next_one (K : PySem.W.Frag) : TS := (sFg (tSeq (tDrop (tCall (sp_need_row K) [] E0 (tCons (tVar 0) tNil)))
  (tSeq (tIfS (tTest (tOp rEq (tVar 1) (tC (.int 0)))) (tRet (tC (.int 1))) tNext)
  (tSeq (tAsg (tOp oMul (tCall (sp_grown K) [] E0 (tCons (tC (.int 1)) (tCons (tOp (rIxL K) (tVar 0) (tC (.int 0))) (tCons (tVar 1) tNil)))) (tOp (rIxL K) (tVar 0) (tC (.int 0)))) (gName 2))
  (tSeq (tFor (iList K (tFg (tCall (sp_made_to K) [] E0 (tCons (tSl (rSlL K) (tVar 0) (tPart (tC (.int 1))) tNoPart) (tCons (tVar 2) tNil))))) (gName 3) (tSeq (tIfS (tTest (tOp oLe (tVar 3) (tVar 1))) (tAsg (tOp oMul (tCall (sp_grown K) [] E0 (tCons (tVar 3) (tCons (tOp (rIxL K) (tVar 0) (tC (.int 0))) (tCons (tVar 1) tNil)))) (tOp (rIxL K) (tVar 0) (tC (.int 0)))) (gName 3)) tNext)
  (tAsg (tCB cMin (tCons (tVar 2) (tCons (tVar 3) tNil))) (gName 2))))
  (tRet (tVar 2)))))))
theorem next_zero {row : List Nat} (g : ∀ p ∈ row, 2 ≤ p) : IsNext row 0 1 := ⟨.one, by omega, fun k hk _ => mk_pos g hk⟩
theorem r_next_one {K : PySem.W.Frag} {vs : List V} {H : Hp} {Q : VK} {E : XK} (h : sp_next_one K vs H Q E) : t_next_one K { nx := fun _ H' => Q .non H', rt := Q } (start n_next_one vs) H := by
  obtain ⟨nd, a, row, n, rfl, ha, w, hne, f, hn, q⟩ := h
  obtain ⟨p, r, rfl⟩ := List.exists_cons_of_ne_nil hne
  have hp := w.ge List.mem_cons_self
  have g := w.good
  refine fg_body (need rfl ha w hne (q_whenP (by clean_wf) (fun hc => ?_) fun hc => ?_))
  · have : n = 0 := by omega
    subst this
    exact s_ret ev_c ⟨H, fg_same ex_refl, q 1 (next_zero g.ge)⟩
  have hn0 : 0 < n := by omega
  have ev0 : ∀ {σ : L2.St} {H' : Hp}, σ[0]? = some (some (.ref a)) → Ex H H' → Ev (tOp (rIxL K) (tVar 0) (tC (.int 0))) σ H' (.int (p : Int)) := fun h e => ev_ixL (ev_v' h) ev_c (sq_at (e _ _ ha)) zv_0
  refine q_setW (w_op (w_callW (w_cons (w_c (w_cons (w_ev (ev0 rfl ex_refl) (w_one (w_v 1 ⟨nd, 1, p, n, rfl, by omega, by omega, hp.1, hp.2, by omega, fun y gy => ?_⟩))))))))
  have hy := gy.le hn0
  have hyp : (y : Int) * (p : Int) = ((y * p : Nat) : Int) := by simp
  have hyn : y * p ≤ n * 97 := Nat.mul_le_mul hy hp.2
  refine w_ev (ev0 rfl ex_refl) (r_mul (cm (by omega)) ?_)
  rw [hyp]
  have hmk0 : Mk (p :: r) (y * p) := by
    obtain ⟨k, e⟩ := gy.pw
    rw [e, Nat.one_mul, ← Nat.pow_succ]
    exact mk_pow List.mem_cons_self _
  have hgt0 := gy.gt
  generalize y * p = b0 at hyn hmk0 hgt0
  refine q_seq (w_forL (el_rest rfl ha w (f.mono hyn) (fun H1 => ev_v 2) fun l p1 hl hp1 => ⟨p1, rfl, ⟨_, sq_up⟩, ?_⟩))
  have hap : a ≠ p1 := ne_of_none ha hp1
  refine lp_list (xs := zv l) (fun i σ' H' => ∃ (best : Nat) (y3 : Option V), σ' = [some (.ref a), some (.int (n : Int)), some (.int (best : Int)), y3] ∧ H' = upd H p1 (.lst (zv l)) ∧ Mk (p :: r) best ∧ n < best ∧ best ≤ b0 ∧ ∀ x ∈ l.take i, ∀ k, n < x * p ^ k → best ≤ x * p ^ k) ⟨b0, none, rfl, rfl, hmk0, hgt0, by omega, by simp⟩ (fun i σ' H' _ hv => ?_) (fun i x σ' H' hx hv => ?_) (fun σ' H' hv => ?_)
  · obtain ⟨_, _, _, rfl, _⟩ := hv
    exact sq_up
  · obtain ⟨best, y3, rfl, rfl, hm, hg, hle, hall⟩ := hv
    simp only [List.getElem?_map] at hx
    cases e : l[i]? with
    | none => rw [e] at hx; cases hx
    | some x' =>
      rw [e] at hx
      cases hx
      have hxm := (hl.2 x').mp (List.mem_of_getElem? e)
      have hx0 := mk_pos w.tail.good.ge hxm.1
      have etake : l.take (i + 1) = l.take i ++ [x'] := by rw [List.take_add_one, e]; rfl
      have fin : ∀ z : Nat, Mk (p :: r) z → n < z → (∀ k, n < x' * p ^ k → z ≤ x' * p ^ k) → ∀ N : L2.St → Hp → Prop, (∀ σ' H', (∃ (best : Nat) (y3 : Option V), σ' = [some (.ref a), some (.int (n : Int)), some (.int (best : Int)), y3] ∧ H' = upd H p1 (.lst (zv l)) ∧ Mk (p :: r) best ∧ n < best ∧ best ≤ b0 ∧ ∀ x ∈ l.take (i + 1), ∀ k, n < x * p ^ k → best ≤ x * p ^ k) → N σ' H') →
          N [some (.ref a), some (.int (n : Int)), some (.int (if (z : Int) < (best : Int) then (z : Int) else (best : Int))), some (.int (z : Int))] (upd H p1 (.lst (zv l))) := fun z h1 h2 h3 N hN => by
        by_cases hzb : z < best
        · rw [if_pos (by omega)]
          refine hN _ _ ⟨z, _, rfl, rfl, h1, h2, by omega, fun x hx k hk => ?_⟩
          rw [etake, List.mem_append] at hx
          rcases hx with hx | hx
          · have := hall x hx k hk; omega
          · rw [List.mem_singleton.mp hx] at hk ⊢; exact h3 k hk
        · rw [if_neg (by omega)]
          refine hN _ _ ⟨best, _, rfl, rfl, hm, hg, hle, fun x hx k hk => ?_⟩
          rw [etake, List.mem_append] at hx
          rcases hx with hx | hx
          · exact hall x hx k hk
          · rw [List.mem_singleton.mp hx] at hk ⊢; have := h3 k hk; omega
      refine q_whenI (fun σ' H' => ∃ z : Nat, σ' = [some (.ref a), some (.int (n : Int)), some (.int (best : Int)), some (.int (z : Int))] ∧ H' = upd H p1 (.lst (zv l)) ∧ Mk (p :: r) z ∧ n < z ∧ ∀ k, n < x' * p ^ k → z ≤ x' * p ^ k) (ep_le (i := (x' : Int)) (j := (n : Int)) (ev_v 3) (ev_v 1)) (fun hxn N hN => ?_) (fun hxn => ⟨x', rfl, rfl, mk_mono (fun _ h => List.mem_cons_of_mem _ h) hxm.1, by omega, fun k _ => pow_le_self hp.1⟩) fun σ' H' hI => ?_
      · refine s_setW (w_op (w_callW (w_cons (w_v 3 (w_cons (w_ev (ev0 rfl (ex_new hp1)) (w_one (w_v 1 ⟨inferInstance, x', p, n, rfl, hx0, by omega, hp.1, hp.2, by omega, fun z gz => ?_⟩))))))))
        have hz := gz.le (by omega)
        have hzp : (z : Int) * (p : Int) = ((z * p : Nat) : Int) := by simp
        refine w_ev (ev0 rfl (ex_new hp1)) (r_mul (cm (by omega)) ?_)
        rw [hzp]
        refine hN _ _ ⟨z * p, rfl, rfl, ?_, gz.gt, fun k hk => gz.least hp.1 (by omega) hx0 hk⟩
        obtain ⟨k, e⟩ := gz.pw
        rw [e, Nat.mul_assoc, ← Nat.pow_succ]
        exact mk_cons.mpr ⟨k + 1, x', rfl, hxm.1⟩
      · obtain ⟨z, rfl, rfl, h1, h2, h3⟩ := hI
        exact s_set (ev_min (ev_v 2) (ev_v 3)) (fin z h1 h2 h3 _ fun _ _ h => h)
  · obtain ⟨best, y3, rfl, rfl, hm, hg, hle, hall⟩ := hv
    rw [zv_len, List.take_length] at hall
    exact s_ret (ev_v 2) ⟨_, fg_same (ex_new hp1), q best (next_of g hl hmk0 hgt0 hm hg hle hall)⟩
end Px
set_option Elab.async false
set_option linter.all false
set_option maxRecDepth 100000
set_option maxHeartbeats 4000000
namespace Px
open PySem L2 MA
local macro_rules | `(tactic| bv_omega) => `(tactic| first | assumption | omega | exact cm (by omega) | exact cd (by omega) | exact cp (by omega) | exact trivial)
local macro_rules | `(tactic| array_get_dec) => `(tactic| first
  | assumption
  | exact sq_up
  | exact Own.sqi (by assumption) 0 (by rfl)
  | exact Own.sqi (by assumption) 1 (by rfl)
  | exact Own.sqi (by assumption) 2 (by rfl)
  | exact Own.sqi (by assumption) 3 (by rfl)
  | exact Own.sqi (by assumption) 4 (by rfl)
  | exact Own.sq (by assumption) (by assumption)
  | exact sq_new (by assumption) (by assumption))
local macro_rules | `(tactic| clean_wf) => `(tactic| first
  | with_reducible exact ev_c
  | (with_reducible apply ev_v') <;> rfl
  | (with_reducible apply ev_add) <;> clean_wf
  | (with_reducible apply ev_sub) <;> clean_wf
  | (with_reducible apply ev_mul) <;> clean_wf
  | (with_reducible apply ev_mod) <;> clean_wf
  | (with_reducible apply ev_div) <;> clean_wf
  | (with_reducible apply ev_pow) <;> clean_wf
  | (with_reducible apply ev_neg) <;> clean_wf
  | (with_reducible apply ev_lt) <;> clean_wf
  | (with_reducible apply ev_le) <;> clean_wf
  | (with_reducible apply ev_gt) <;> clean_wf
  | (with_reducible apply ev_ge) <;> clean_wf
  | (with_reducible apply ev_eqi) <;> clean_wf
  | (with_reducible apply ev_nei) <;> clean_wf
  | (with_reducible apply ev_len) <;> clean_wf
  | (with_reducible apply ev_ixL) <;> clean_wf
  | (with_reducible apply ev_min) <;> clean_wf
  | (with_reducible apply ev_max) <;> clean_wf
  | (with_reducible apply ev_abs) <;> clean_wf
  | (with_reducible apply ev_intB) <;> clean_wf
  | (with_reducible apply ea_1) <;> clean_wf
  | (with_reducible apply ea_2) <;> clean_wf
  | (with_reducible apply ea_3) <;> clean_wf
  | with_reducible exact ea_nil
  | (with_reducible apply ea_cons) <;> clean_wf
  | with_reducible exact el_nil
  | (with_reducible apply ep_lt) <;> clean_wf
  | (with_reducible apply ep_le) <;> clean_wf
  | (with_reducible apply ep_gt) <;> clean_wf
  | (with_reducible apply ep_ge) <;> clean_wf
  | (with_reducible apply ep_eqi) <;> clean_wf
  | (with_reducible apply ep_nei) <;> clean_wf
  | (with_reducible apply ep_not) <;> clean_wf
  | ((with_reducible apply ep_and) <;> first | (intro _; clean_wf; done) | clean_wf)
  | ((with_reducible apply ep_or) <;> first | (intro _; clean_wf; done) | clean_wf)
  | (with_reducible apply et_t) <;> clean_wf
  | (with_reducible apply eo_is) <;> clean_wf
  | with_reducible exact eo_no
  | array_get_dec
  | bv_omega
  | rfl
  | skip)
local macro_rules | `(tactic| symm_saturate) => `(tactic| first
  | ((with_reducible apply q_set); (focus (clean_wf; done)))
  | ((with_reducible apply s_set); (focus (clean_wf; done)))
  | ((with_reducible apply q_aug (hx := rfl)); (focus (clean_wf; done)))
  | ((with_reducible apply s_aug (hx := rfl)); (focus (clean_wf; done)))
  | ((with_reducible apply q_augC (hx := rfl)); (focus (clean_wf; done)))
  | ((with_reducible apply s_augC (hx := rfl)); (focus (clean_wf; done))))
local macro_rules | `(tactic| subst_eqs) => `(tactic| repeat' (first
  | with_reducible apply w_c
  | ((with_reducible apply w_v'); (focus rfl))
  | with_reducible apply w_op
  | with_reducible apply w_cb
  | with_reducible apply w_cons
  | with_reducible apply w_nil
  | with_reducible apply r_add
  | with_reducible apply r_sub
  | ((with_reducible apply r_mul); (focus (bv_omega; done)))
  | ((with_reducible apply r_div); (focus (bv_omega; done)))
  | ((with_reducible apply r_mod); (focus (bv_omega; done)))
  | ((with_reducible apply r_pow); (focus (bv_omega; done)))
  | with_reducible apply r_lt
  | with_reducible apply r_le
  | with_reducible apply r_gt
  | with_reducible apply r_ge
  | with_reducible apply r_min
  | with_reducible apply r_max
  | with_reducible apply r_intB
  | ((with_reducible apply r_len); (focus (array_get_dec; done)))
  | with_reducible apply w_callW
  | with_reducible apply q_setW
  | with_reducible apply s_setW
  | with_reducible apply s_retW))

theorem gn_uniq {p b x y y' : Nat} (hp : 2 ≤ p) (hx : 0 < x) (hxb : x ≤ b) (g : Gn p b x y) (g' : Gn p b x y') : y = y' := by
  obtain ⟨k, e⟩ := g.pw
  obtain ⟨k', e'⟩ := g'.pw
  have h1 := g.le hxb
  have h2 := g'.le hxb
  have h3 := g'.most hp hx (k := k) (by omega)
  have h4 := g.most hp hx (k := k') (by omega)
  omega
open Classical in
noncomputable def gro (p b x : Nat) : Nat := if h : ∃ y, Gn p b x y then Classical.choose h else 0
theorem gro_eq {p b x y : Nat} (hp : 2 ≤ p) (hx : 0 < x) (hxb : x ≤ b) (g : Gn p b x y) : gro p b x = y := by
  have h : ∃ y, Gn p b x y := ⟨y, g⟩
  unfold gro
  rw [dif_pos h]
  exact gn_uniq hp hx hxb (Classical.choose_spec h) g
theorem gro_is {p b x : Nat} (hp : 2 ≤ p) (hx : 0 < x) (hxb : x ≤ b) : Gn p b x (gro p b x) := by
  have key : ∀ d y k, b - y = d → y = x * p ^ k → y ≤ b → ∃ z, Gn p b x z := by
    intro d
    induction d using Nat.strongRecOn with
    | ind d ih =>
      intro y k hd hy hyb
      by_cases h : y * p ≤ b
      · have hy0 : 0 < y := by rw [hy]; exact Nat.mul_pos hx (Nat.pow_pos (by omega))
        have h2 : y * 2 ≤ y * p := Nat.mul_le_mul_left y hp
        exact ih (b - y * p) (by omega) (y * p) (k + 1) rfl (by rw [hy, Nat.pow_succ, Nat.mul_assoc]) h
      · exact ⟨y, ⟨k, hy⟩, by omega, fun _ => hyb⟩
  obtain ⟨z, hz⟩ := key _ x 0 rfl (by simp) hxb
  rw [gro_eq hp hx hxb hz]
  exact hz
/-! ### the last one -/
/-- what last_one tells -/
def LastV (row : List Nat) (n : Nat) (v : V) : Prop := (n < 2 ∧ v = .non) ∨ ∃ m, 2 ≤ n ∧ IsLast row n m ∧ v = .int (m : Int)
def sp_last_one (K : PySem.W.Frag) : Sp := fun vs H Q _ => Nod H ∧ ∃ (a : Addr) (row : List Nat) (n : Nat), vs = [.ref a, .int (n : Int)] ∧ H a = some (.lst (zv row)) ∧ Rw row ∧ row ≠ [] ∧ Fits (row.drop 1) (n - 1) ∧
  ∀ v, LastV row n v → Q v H
/-- slots: row number rest -/
abbrev n_last_one : List Str := ["row", "number", "rest"]
def t_last_one (K : PySem.W.Frag) : TS := (sFg (tSeq (tDrop (tCall (sp_need_row K) [] E0 (tCons (tVar 0) tNil)))
  (tSeq (tIfS (tTest (tOp oLt (tVar 1) (tC (.int 2)))) (tRet (tC .non)) tNext)
  (tRet (tFg (tCB (rMax K) (tCons (tFg (tLc (iList K (tFg (tCall (sp_made_to K) [] E0 (tCons (tSl (rSlL K) (tVar 0) (tPart (tC (.int 1))) tNoPart) (tCons (tOp oSub (tVar 1) (tC (.int 1))) tNil))))) (gName 2) tYes (tCall (sp_grown K) [] E0 (tCons (tVar 2) (tCons (tOp (rIxL K) (tVar 0) (tC (.int 0))) (tCons (tOp oSub (tVar 1) (tC (.int 1))) tNil)))) [2])) tNil)))))))
theorem r_last_one {K : PySem.W.Frag} {vs : List V} {H : Hp} {Q : VK} {E : XK} (h : sp_last_one K vs H Q E) : t_last_one K { nx := fun _ H' => Q .non H', rt := Q } (start n_last_one vs) H := by
  obtain ⟨nd, a, row, n, rfl, ha, w, hne, f, q⟩ := h
  obtain ⟨p, r, rfl⟩ := List.exists_cons_of_ne_nil hne
  have hp := w.ge List.mem_cons_self
  have g := w.good
  have hb := f.lt
  refine fg_body (need rfl ha w hne (q_whenP (by clean_wf) (fun hc => ?_) fun hc => ?_))
  · exact s_ret ev_c ⟨H, fg_same ex_refl, q _ (.inl ⟨by omega, rfl⟩)⟩
  have hn2 : 2 ≤ n := by omega
  have en : (n : Int) - 1 = ((n - 1 : Nat) : Int) := by omega
  refine s_retW (w_fg (w_cb (w_one (w_fg (w_lcLW (el_rest (b := n - 1) rfl ha w f (fun H1 => ev_eq (ev_sub (ev_v 1) ev_c) (by rw [en])) fun l p1 hl hp1 => ⟨p1, rfl, ⟨_, sq_up⟩, lcat_map (fun i => (gro p (n - 1) i.toNat : Int)) sq_up ?_ (fun _ => rfl) (fun i hi D acc hD => ?_) fun D hD => ?_⟩))))))
  · rw [zl_len, hl.len]
    exact Nat.le_trans (w.tail.fit f) (by omega)
  · obtain ⟨x, hx, rfl⟩ := List.mem_map.mp hi
    have hx0 := mk_pos w.tail.good.ge ((hl.2 x).mp hx).1
    have hxb := ((hl.2 x).mp hx).2
    obtain ⟨hD1, hD2⟩ := none_upd hD
    have hap : a ≠ p1 := ne_of_none ha hp1
    have haD : a ≠ D := ne_of_none ha hD1
    refine ev_call (ea_3 (ev_v 2) (ev_ixL (i := 0) (v := .int (p : Int)) (ev_v 0) ev_c (sq_at (by rw [upd_ne haD, upd_ne hap]; exact ha)) zv_0) (ev_sub (ev_v 1) ev_c)) fun Q q => ⟨inferInstance, x, p, n - 1, by rw [en], hx0, by omega, hp.1, hp.2, by omega, fun y gy => ?_⟩
    rw [← gro_eq hp.1 hx0 hxb gy]
    simpa using q
  · obtain ⟨hD1, hD2⟩ := none_upd hD
    refine ⟨_, fg_newL hD1 (ex_upd hD1 (ex_new hp1)) upd_same, ?_⟩
    have h1l : 1 ∈ l := (hl.2 1).mpr ⟨.one, by omega⟩
    refine ⟨D, _, rfl, sq_up, by rw [List.length_map, zl_len]; exact List.length_pos_of_mem h1l, fun m hm hall => ⟨H, fg_same (ex_new hD1), H, fg_same ex_refl, ?_⟩⟩
    obtain ⟨i, hi, rfl⟩ := List.mem_map.mp hm
    obtain ⟨x, hx, rfl⟩ := List.mem_map.mp hi
    have hxm := (hl.2 x).mp hx
    have gx := gro_is hp.1 (mk_pos w.tail.good.ge hxm.1) hxm.2
    refine q _ (.inr ⟨gro p (n - 1) x, hn2, last_of g hl ?_ ?_ fun z hz k hk => ?_, rfl⟩)
    · obtain ⟨k, e⟩ := gx.pw
      exact mk_cons.mpr ⟨k, x, e, hxm.1⟩
    · have := gx.le hxm.2; omega
    · have hzm := (hl.2 z).mp hz
      have hz0 := mk_pos w.tail.good.ge hzm.1
      have gz := gro_is hp.1 hz0 hzm.2
      have h3 := gz.most hp.1 hz0 hk
      have h4 := hall _ (List.mem_map.mpr ⟨(z : Int), List.mem_map.mpr ⟨z, hz, rfl⟩, rfl⟩)
      simp only [Int.toNat_natCast] at h4
      omega
/-! ### the first so many -/
theorem cmL {x p : Nat} (hx : x < 2 ^ 7000) (hp : p ≤ 97) : CMulW (x : Int) (p : Int) := by
  refine wide_mul (a := 7000) (b := 7) ?_ ?_ (by decide) (by decide) (by decide)
  · rw [Int.natAbs_natCast]; exact hx
  · rw [Int.natAbs_natCast]; omega
def sp_first_ones (K : PySem.W.Frag) : Sp := fun vs H Q _ => Nod H ∧ ∃ (a : Addr) (row : List Nat) (m T : Nat), vs = [.ref a, .int (m : Int)] ∧ H a = some (.lst (zv row)) ∧ Rw row ∧ row ≠ [] ∧ m ≤ 9000000 ∧ m ≤ cnt row T ∧ T < 2 ^ 7000 ∧
  ∀ (p : Addr) (l : List Nat), H p = none → IsFst row m l → Q (.ref p) (upd H p (.lst (zv l)))
/-- slots: row many found places some least place prime one -/
abbrev n_first_ones : List Str := ["row", "many", "found", "places", "some", "least", "place", "prime", "one"]
def t_first_ones (K : PySem.W.Frag) : TS := (sFg (tSeq (tDrop (tCall (sp_need_row K) [] E0 (tCons (tVar 0) tNil)))
  (tSeq (tAsg (tLst (tCons (tC (.int 1)) tNil)) (gName 2))
  (tSeq (tAsg (tFg (tOp rRep (tLst (tCons (tC (.int 0)) tNil)) (tCB (cLen K) (tCons (tVar 0) tNil)))) (gName 3))
  (tSeq (tWhile (tTest (tOp oLt (tCB (cLen K) (tCons (tVar 2) tNil)) (tVar 1))) (tSeq (tAsg (tLc (iZip K (tCons (tVar 3) (tCons (tVar 0) tNil))) (gTup K 2 (gCons (gName 6) (gCons (gName 7) gNil))) tYes (tOp oMul (tOp (rIxL K) (tVar 2) (tVar 6)) (tVar 7)) [6, 7]) (gName 4))
  (tSeq (tAsg (tCB (rMin K) (tCons (tVar 4) tNil)) (gName 5))
  (tSeq (tDrop (tBM K "list" rAppend (tVar 2) (tCons (tVar 5) tNil)))
  (tAsg (tLc (iZip K (tCons (tVar 3) (tCons (tVar 4) tNil))) (gTup K 2 (gCons (gName 6) (gCons (gName 8) gNil))) tYes (tOp oAdd (tVar 6) (tCB cInt (tCons (tOp rEq (tVar 8) (tVar 5)) tNil))) [6, 8]) (gName 3))))))
  (tRet (tSl (rSlL K) (tVar 2) tNoPart (tPart (tVar 1)))))))))
def prods (F pl row : List Nat) : List Nat := (pl.zip row).map fun q => F.getD q.1 0 * q.2
def moved (pl S : List Nat) (m : Nat) : List Nat := (pl.zip S).map fun q => q.1 + if q.2 = m then 1 else 0
theorem prods_len {F pl row : List Nat} (h : pl.length = row.length) : (prods F pl row).length = row.length := by simp [prods, h]
theorem prods_get {F pl row : List Nat} {j k p x : Nat} (h1 : row[j]? = some p) (h2 : pl[j]? = some k) (h3 : F[k]? = some x) : (prods F pl row)[j]? = some (x * p) := by
  unfold prods
  rw [List.getElem?_map, (List.getElem?_zip_eq_some (z := (k, p))).mpr ⟨h2, h1⟩]
  simp [List.getD_eq_getElem?_getD, h3]
theorem moved_get {pl S : List Nat} {j k s m : Nat} (h1 : pl[j]? = some k) (h2 : S[j]? = some s) : (moved pl S m)[j]? = some (k + if s = m then 1 else 0) := by
  unfold moved
  rw [List.getElem?_map, (List.getElem?_zip_eq_some (z := (k, s))).mpr ⟨h1, h2⟩]; rfl
theorem take_snoc {l : List Nat} {i x : Nat} (h : l[i]? = some x) : l.take (i + 1) = l.take i ++ [x] := by rw [List.take_add_one, h]; rfl
theorem zv_some {l : List Nat} {i : Nat} {v : V} (h : (zv l)[i]? = some v) : ∃ x : Nat, l[i]? = some x ∧ v = .int (x : Int) := by
  simp only [List.getElem?_map] at h
  cases e : l[i]? with
  | none => rw [e] at h; cases h
  | some x => rw [e] at h; cases h; exact ⟨x, rfl, rfl⟩
theorem r_first_ones {K : PySem.W.Frag} {vs : List V} {H : Hp} {Q : VK} {E : XK} (h : sp_first_ones K vs H Q E) : t_first_ones K { nx := fun _ H' => Q .non H', rt := Q } (start n_first_ones vs) H := by
  obtain ⟨nd, a, row, m, T, rfl, ha, w, hne, hm, hmT, hT, q⟩ := h
  have g := w.good
  have hl6 := w.le
  have hl0 : 0 < row.length := List.length_pos_iff.mpr hne
  have sa : SqL K H a (zv row) := sq_at ha
  refine fg_body (need rfl ha w hne (q_setL (el_lst (ea_1 ev_c) (by simp)) fun pf hpf => ?_))
  have o : Own H [(pf, zv [1])] (upd H pf (.lst [.int 1])) := Own.nil.new hpf
  refine q_setL (xs := zv (List.replicate row.length 0)) (el_fg fun Q q => w_op (w_evL (el_lst (ea_1 ev_c) (by simp)) fun p1 hp1 => w_ev (ev_len (ev_v 0) (sq_new hp1 (o.sq sa))) ⟨p1, _, _, rfl, rfl, upd_same, by rw [zv_len]; omega, by rw [zv_len]; omega, ?_, fun p2 hp2 => ?_⟩)) fun pp hpp => ?_
  · rw [zv_len]; exact Nat.le_trans (by simp; omega : _ ≤ 1000) (by decide)
  · obtain ⟨h1, h2⟩ := none_upd hp2
    refine q p2 _ h1 (ex_upd h1 (ex_new hp1)) ?_
    rw [upd_same]
    simp
  replace o := o.new (xs := zv (List.replicate row.length 0)) hpp
  refine q_whileP (fun k σ' H' => ∃ (F pl : List Nat) (c : Nat) (pp : Addr) (y4 y5 y6 y7 y8 : Option V), σ' = [some (.ref a), some (.int (m : Int)), some (.ref pf), some (.ref pp), y4, y5, none, none, none] ∧ Own H [(pp, zv pl), (pf, zv F)] H' ∧ FS row F pl c ∧ k = m - F.length ∧ (F.length ≤ m ∨ F.length = 1)) (m - 1)
    ⟨[1], _, 1, pp, none, none, none, none, none, rfl, o, .start g.ge, rfl, .inr rfl⟩ (fun k σ' H' hw => ?_)
  obtain ⟨F, pl, c, pp, y4, y5, y6, y7, y8, rfl, o, fs, rfl, hF⟩ := hw
  have hFc := fs.flen
  refine ⟨_, ep_lt (ev_len (ev_v 2) (o.sqi 1 rfl)) (ev_v 1), fun hc => ?_, fun hc => ?_⟩
  · rw [zv_len] at hc
    have hFm : F.length < m := by omega
    have hcT : c ≤ T := fst_le fs.mkc (by omega : cnt row c ≤ m) hmT
    have hFx : ∀ {j x : Nat}, F[j]? = some x → x ≤ c := fun {j x} hj => by
      have := List.mem_of_getElem? hj
      rw [fs.eq] at this
      exact (allL_mem.mp this).2
    have hpr : ∀ {j p : Nat}, row[j]? = some p → 2 ≤ p ∧ p ≤ 97 := fun hj => w.ge (List.mem_of_getElem? hj)
    have hplen := fs.len
    -- some = [..]
    refine q_setW (w_lcZ (ea_2 (ev_v 3) (ev_v 0) _ ⟨pp, a, zv pl, zv row, rfl, o.sqi 0 rfl, o.sq sa, lcat_zip (fun D i H' => Own H [(D, zv ((prods F pl row).take i)), (pp, zv pl), (pf, zv F)] H') (fun D hD => o.new hD) (fun D i H' hD o => ⟨o.sqi 1 rfl, o.sq sa⟩) (fun x y => rfl) (fun D i x y Tp H' hD hx hy o hTp => ?_) fun D H' hD o => ?_⟩))
    · obtain ⟨k, hk, rfl⟩ := zv_some hx
      obtain ⟨p, hp, rfl⟩ := zv_some hy
      obtain ⟨z, hz, _, _⟩ := fs.ok i p k hp hk
      have hkl : k < F.length := (List.getElem?_eq_some_iff.mp hz).1
      have hzc := hFx hz
      have o2 := o.tup (xs := [V.int (k : Int), .int (p : Int)]) hTp
      have eF : F[k] = z := (List.getElem?_eq_some_iff.mp hz).2
      refine et_yes _ (iteT (ev_mul (i := (z : Int)) (j := (p : Int)) (ev_ixL (i := (k : Int)) (ev_v 2) (ev_v 6) (o2.sqi 2 rfl) (by rw [zv_at hkl, eF])) (ev_v 7) (cmL (by omega) (hpr hp).2) _ ⟨_, o2.atI 0 rfl, ?_, ?_⟩))
      · rw [zv_len, List.length_take]; exact szl (by rw [prods_len hplen]; omega)
      · rw [take_snoc (prods_get hp hk hz), zv_app]
        have := o2.mut (ys := zv ((prods F pl row).take i) ++ [V.int ((z * p : Nat) : Int)]) 0 rfl
        simpa using this
    · rw [zv_len, zv_len, hplen, Nat.min_self, List.take_of_length_le (by rw [prods_len hplen]; omega)] at o
      have hS : 0 < (prods F pl row).length := by rw [prods_len hplen]; exact hl0
      -- least = min(some)
      refine q_setW (w_cb (w_one (w_v 4 ⟨D, zl (prods F pl row), rfl, o.sqi 0 rfl, by rw [zl_len]; exact hS, fun mm hmm hall => ?_⟩)))
      obtain ⟨ms, hms, rfl⟩ := List.mem_map.mp hmm
      have hle : ∀ j p k x : Nat, row[j]? = some p → pl[j]? = some k → F[k]? = some x → ms ≤ x * p := fun j p k x h1 h2 h3 => by
        have := hall _ (List.mem_map.mpr ⟨x * p, List.mem_of_getElem? (prods_get h1 h2 h3), rfl⟩)
        omega
      have hex : ∃ j p k x : Nat, row[j]? = some p ∧ pl[j]? = some k ∧ F[k]? = some x ∧ ms = x * p := by
        obtain ⟨j, hj⟩ := List.mem_iff_getElem?.mp hms
        have hjl : j < row.length := by rw [← prods_len (F := F) hplen]; exact (List.getElem?_eq_some_iff.mp hj).1
        have h1 := List.getElem?_eq_getElem hjl
        have h2 := List.getElem?_eq_getElem (show j < pl.length by omega)
        obtain ⟨x, hx, _, _⟩ := fs.ok j _ _ h1 h2
        refine ⟨j, _, _, x, h1, h2, hx, ?_⟩
        rw [prods_get h1 h2 hx] at hj
        exact (Option.some.inj hj).symm
      have nx := fs.next g hex hle
      -- found.append(least)
      refine q_seq (s_app (o.atI 2 rfl) (by rw [zv_len]; exact szl (by omega)) (ev_v 2) (ev_v 5) ?_)
      rw [zv_one]
      replace o := o.mut (ys := zv (F ++ [ms])) 2 rfl
      refine s_setW (w_lcZ (ea_2 (ev_v 3) (ev_v 4) _ ⟨pp, D, zv pl, zv (prods F pl row), rfl, o.sqi 1 rfl, o.sqi 0 rfl, lcat_zip (fun D2 i H' => Own H [(D2, zv ((moved pl (prods F pl row) ms).take i)), (D, zv (prods F pl row)), (pp, zv pl), (pf, zv (F ++ [ms]))] H') (fun D hD => o.new hD) (fun D i H' hD o => ⟨o.sqi 2 rfl, o.sqi 1 rfl⟩) (fun x y => rfl) (fun D2 i x y Tp H' hD hx hy o hTp => ?_) fun D2 H' hD o => ?_⟩))
      · obtain ⟨k, hk, rfl⟩ := zv_some hx
        obtain ⟨sv, hs, rfl⟩ := zv_some hy
        have o2 := o.tup (xs := [V.int (k : Int), .int (sv : Int)]) hTp
        have hi : i < row.length := by have := (List.getElem?_eq_some_iff.mp hk).1; omega
        refine et_yes _ (iteT (ev_add (i := (k : Int)) (ev_v 6) (ev_intB (ev_eqi (i := (sv : Int)) (j := (ms : Int)) (ev_v 8) (ev_v 5))) _ ⟨_, o2.atI 0 rfl, ?_, ?_⟩))
        · rw [zv_len, List.length_take]; exact szl (by omega)
        · rw [take_snoc (moved_get hk hs), zv_app]
          have := o2.mut (ys := zv ((moved pl (prods F pl row) ms).take i) ++ [V.int ((k + if sv = ms then 1 else 0 : Nat) : Int)]) 0 rfl
          have e : ((k : Int) + if decide ((sv : Int) = (ms : Int)) = true then 1 else 0) = ((k + if sv = ms then 1 else 0 : Nat) : Int) := by
            by_cases h : sv = ms
            · simp [h]
            · have h' : ¬ (sv : Int) = (ms : Int) := by omega
              simp [h, h']
          rw [e]
          simpa using this
      · have hml : (moved pl (prods F pl row) ms).length = pl.length := by simp [moved, prods_len hplen, hplen]
        rw [zv_len, zv_len, prods_len hplen, hplen, Nat.min_self, List.take_of_length_le (by omega)] at o
        refine ⟨m - (F ++ [ms]).length, by simp; omega, F ++ [ms], _, ms, D2, _, _, none, none, none, rfl, o.drop2.drop2, fs.step nx hml (fun j p k x h1 h2 h3 => ?_) hle g.ge, rfl, .inl (by simp; omega)⟩
        rw [moved_get h2 (prods_get h1 h2 h3)]
        split <;> simp
  · rw [zv_len] at hc
    refine s_retL (el_sl (ev_v 2) eo_no (eo_is (ev_v 1)) (o.sqi 1 rfl)) fun pr hpr => ?_
    rw [cut_toN]
    replace o := o.new (xs := zv (F.take m)) hpr
    refine ⟨_, o.ret 0 rfl, q pr _ (o.offI 0 rfl) ?_⟩
    by_cases h0 : m = 0
    · subst h0
      exact .inl ⟨rfl, by simp⟩
    · have : F.length = m := by omega
      rw [List.take_of_length_le (by omega)]
      exact .inr ⟨c, fs.mkc, by omega, fs.eq⟩
end Px
set_option linter.all false
set_option maxHeartbeats 1000000
namespace MA
theorem least_of {P : Nat → Prop} {n : Nat} (h : P n) : ∃ m, P m ∧ ∀ k, P k → m ≤ k := by
  induction n using Nat.strongRecOn with
  | ind n ih =>
    by_cases c : ∃ k, k < n ∧ P k
    · obtain ⟨k, hk, hp⟩ := c
      exact ih k hk hp
    · exact ⟨n, h, fun k hk => by
        rcases Nat.lt_or_ge k n with z | z
        · exact absurd ⟨k, z, hk⟩ c
        · exact z⟩
theorem most_of {P : Nat → Prop} {n b : Nat} (h : P n) (hb : n ≤ b) : ∃ m, P m ∧ m ≤ b ∧ ∀ k, P k → k ≤ b → k ≤ m := by
  obtain ⟨d, ⟨h1, h2⟩, h3⟩ := least_of (P := fun d => P (b - d) ∧ d ≤ b) (n := b - n) ⟨by rw [show b - (b - n) = n by omega]; exact h, by omega⟩
  exact ⟨b - d, h1, by omega, fun k hk hkb => by
    have := h3 (b - k) ⟨by rw [show b - (b - k) = k by omega]; exact hk, by omega⟩
    omega⟩
theorem lt_pow {p n : Nat} (hp : 2 ≤ p) : n < p ^ n := Nat.lt_of_lt_of_le Nat.lt_two_pow_self (Nat.pow_le_pow_left hp n)
theorem next_ex {row : List Nat} (g : Good row) (hne : row ≠ []) (n : Nat) : ∃ m, IsNext row n m := by
  obtain ⟨p, r, rfl⟩ := List.exists_cons_of_ne_nil hne
  obtain ⟨m, ⟨h1, h2⟩, h3⟩ := least_of (P := fun m => Mk (p :: r) m ∧ n < m) (n := p ^ n) ⟨mk_pow List.mem_cons_self n, lt_pow g.head⟩
  exact ⟨m, h1, h2, fun k hk hn => h3 k ⟨hk, hn⟩⟩
theorem last_ex {row : List Nat} {n : Nat} (hn : 2 ≤ n) : ∃ m, IsLast row n m := by
  obtain ⟨m, h1, h2, h3⟩ := most_of (P := Mk row) (n := 1) (b := n - 1) .one (by omega)
  exact ⟨m, h1, by omega, fun k hk hkn => h3 k hk (by omega)⟩
open Classical in
noncomputable def nxt (row : List Nat) (n : Nat) : Nat := if h : ∃ m, IsNext row n m then Classical.choose h else 0
theorem nxt_is {row : List Nat} (g : Good row) (hne : row ≠ []) (n : Nat) : IsNext row n (nxt row n) := by
  have h := next_ex g hne n
  unfold nxt
  rw [dif_pos h]
  exact Classical.choose_spec h
theorem nxt_eq {row : List Nat} {n m : Nat} (h : IsNext row n m) : nxt row n = m := by
  have h' : ∃ m, IsNext row n m := ⟨m, h⟩
  unfold nxt
  rw [dif_pos h']
  exact (Classical.choose_spec h').uniq h
open Classical in
noncomputable def lst (row : List Nat) (n : Nat) : Nat := if h : ∃ m, IsLast row n m then Classical.choose h else 0
theorem lst_is {row : List Nat} {n : Nat} (hn : 2 ≤ n) : IsLast row n (lst row n) := by
  have h := last_ex (row := row) hn
  unfold lst
  rw [dif_pos h]
  exact Classical.choose_spec h
theorem lst_eq {row : List Nat} {n m : Nat} (h : IsLast row n m) : lst row n = m := by
  have h' : ∃ m, IsLast row n m := ⟨m, h⟩
  unfold lst
  rw [dif_pos h']
  exact (Classical.choose_spec h').uniq h
noncomputable def nth (row : List Nat) : Nat → Nat
  | 0 => 1
  | k + 1 => nxt row (nth row k)
theorem nth_mk {row : List Nat} (g : Good row) (hne : row ≠ []) : ∀ k, Mk row (nth row k)
  | 0 => .one
  | k + 1 => (nxt_is g hne _).made
theorem cnt_one {row : List Nat} (g : ∀ p ∈ row, 2 ≤ p) : cnt row 1 = 1 := by rw [show (1 : Nat) = 0 + 1 from rfl, cnt_yes .one, cnt_zero g]
theorem nth_cnt {row : List Nat} (g : Good row) (hne : row ≠ []) : ∀ k, cnt row (nth row k) = k + 1
  | 0 => cnt_one g.ge
  | k + 1 => by
    show cnt row (nxt row (nth row k)) = _
    rw [cnt_next (nxt_is g hne _), nth_cnt g hne k]
theorem nth_all {row : List Nat} (g : Good row) (hne : row ≠ []) : ∀ k, allL row (nth row k) = (List.range (k + 1)).map (nth row)
  | 0 => by
    have h : allL row 1 = allL row 0 ++ [1] := allL_succ_yes .one
    show allL row 1 = _
    rw [h, show allL row 0 = [] from List.length_eq_zero_iff.mp (cnt_zero g.ge)]
    rfl
  | k + 1 => by
    show allL row (nxt row (nth row k)) = _
    rw [allL_next (nxt_is g hne _), nth_all g hne k, List.range_succ (n := k + 1), List.map_append]
    rfl
noncomputable def fst (row : List Nat) (m : Nat) : List Nat := (List.range m).map (nth row)
theorem fst_len {row : List Nat} {m : Nat} : (fst row m).length = m := by simp [fst]
theorem fst_get {row : List Nat} {m i : Nat} (h : i < m) : (fst row m)[i]? = some (nth row i) := by simp [fst, h]
theorem fst_is {row : List Nat} (g : Good row) (hne : row ≠ []) (m : Nat) : IsFst row m (fst row m) := by
  cases m with
  | zero => exact .inl ⟨rfl, rfl⟩
  | succ m => exact .inr ⟨nth row m, nth_mk g hne m, nth_cnt g hne m, (nth_all g hne m).symm⟩
theorem fst_eq {row l : List Nat} (g : Good row) (hne : row ≠ []) {m : Nat} (h : IsFst row m l) : l = fst row m := h.uniq g.ge (fst_is g hne m)
theorem nth_le {row : List Nat} (g : Good row) (hne : row ≠ []) {k T : Nat} (h : k < cnt row T) : nth row k ≤ T := fst_le (nth_mk g hne k) (Nat.le_of_eq (nth_cnt g hne k)) h
/-- a made number stands at its place -/
theorem nth_of {row : List Nat} (g : Good row) (hne : row ≠ []) {n : Nat} (h : Mk row n) : nth row (cnt row n - 1) = n := by
  have h0 := cnt_pos (row := row) (mk_pos g.ge h)
  exact mk_inj (nth_mk g hne _) h (by rw [nth_cnt g hne]; omega)
theorem fst_all {row : List Nat} (g : Good row) (hne : row ≠ []) (b : Nat) : fst row (cnt row b) = allL row b := by
  by_cases h : b = 0
  · subst h
    rw [cnt_zero g.ge, show allL row 0 = [] from List.length_eq_zero_iff.mp (cnt_zero g.ge)]; rfl
  · have h0 := cnt_pos (row := row) (b := b) (by omega)
    have e : allL row (nth row (cnt row b - 1)) = allL row b := by
      have hle := nth_le g hne (k := cnt row b - 1) (T := b) (by omega)
      refine (allL_gap hle fun n h1 h2 hn => ?_).symm
      have h3 := cnt_lt h1 hn
      rw [nth_cnt g hne] at h3
      have := cnt_mono (row := row) h2
      omega
    rw [← e, nth_all g hne, show cnt row b - 1 + 1 = cnt row b by omega]; rfl
/-- enough of them: the powers of one prime -/
theorem cnt_pow {row : List Nat} {p : Nat} (hp : p ∈ row) (h2 : 2 ≤ p) (k : Nat) : k + 1 ≤ cnt row (p ^ k) := by
  have : ((List.range (k + 1)).map fun i => p ^ i).length ≤ cnt row (p ^ k) := cnt_le ?_ fun n hn => by
    obtain ⟨i, hi, rfl⟩ := List.mem_map.mp hn
    exact ⟨mk_pow hp i, Nat.pow_le_pow_right (by omega) (by have := List.mem_range.mp hi; omega)⟩
  · simpa using this
  · refine List.pairwise_map.mpr (List.nodup_range.imp fun ne e => ne ?_)
    exact (Nat.pow_right_inj (by omega)).mp e
end MA
set_option Elab.async false
set_option linter.all false
set_option maxRecDepth 100000
set_option maxHeartbeats 4000000
namespace Px
open PySem L2 MA
local macro_rules | `(tactic| bv_omega) => `(tactic| first | assumption | omega | exact cm (by omega) | exact cd (by omega) | exact cp (by omega) | exact trivial)
local macro_rules | `(tactic| array_get_dec) => `(tactic| first
  | assumption
  | exact sq_up
  | exact Own.sqi (by assumption) 0 (by rfl)
  | exact Own.sqi (by assumption) 1 (by rfl)
  | exact Own.sqi (by assumption) 2 (by rfl)
  | exact Own.sqi (by assumption) 3 (by rfl)
  | exact Own.sqi (by assumption) 4 (by rfl)
  | exact Own.sq (by assumption) (by assumption)
  | exact sq_new (by assumption) (by assumption))
local macro_rules | `(tactic| clean_wf) => `(tactic| first
  | with_reducible exact ev_c
  | (with_reducible apply ev_v') <;> rfl
  | (with_reducible apply ev_add) <;> clean_wf
  | (with_reducible apply ev_sub) <;> clean_wf
  | (with_reducible apply ev_mul) <;> clean_wf
  | (with_reducible apply ev_mod) <;> clean_wf
  | (with_reducible apply ev_div) <;> clean_wf
  | (with_reducible apply ev_pow) <;> clean_wf
  | (with_reducible apply ev_neg) <;> clean_wf
  | (with_reducible apply ev_lt) <;> clean_wf
  | (with_reducible apply ev_le) <;> clean_wf
  | (with_reducible apply ev_gt) <;> clean_wf
  | (with_reducible apply ev_ge) <;> clean_wf
  | (with_reducible apply ev_eqi) <;> clean_wf
  | (with_reducible apply ev_nei) <;> clean_wf
  | (with_reducible apply ev_len) <;> clean_wf
  | (with_reducible apply ev_ixL) <;> clean_wf
  | (with_reducible apply ev_min) <;> clean_wf
  | (with_reducible apply ev_max) <;> clean_wf
  | (with_reducible apply ev_abs) <;> clean_wf
  | (with_reducible apply ev_intB) <;> clean_wf
  | (with_reducible apply ea_1) <;> clean_wf
  | (with_reducible apply ea_2) <;> clean_wf
  | (with_reducible apply ea_3) <;> clean_wf
  | with_reducible exact ea_nil
  | (with_reducible apply ea_cons) <;> clean_wf
  | with_reducible exact el_nil
  | (with_reducible apply ep_lt) <;> clean_wf
  | (with_reducible apply ep_le) <;> clean_wf
  | (with_reducible apply ep_gt) <;> clean_wf
  | (with_reducible apply ep_ge) <;> clean_wf
  | (with_reducible apply ep_eqi) <;> clean_wf
  | (with_reducible apply ep_nei) <;> clean_wf
  | (with_reducible apply ep_not) <;> clean_wf
  | ((with_reducible apply ep_and) <;> first | (intro _; clean_wf; done) | clean_wf)
  | ((with_reducible apply ep_or) <;> first | (intro _; clean_wf; done) | clean_wf)
  | (with_reducible apply et_t) <;> clean_wf
  | (with_reducible apply eo_is) <;> clean_wf
  | with_reducible exact eo_no
  | array_get_dec
  | bv_omega
  | rfl
  | skip)
local macro_rules | `(tactic| symm_saturate) => `(tactic| first
  | ((with_reducible apply q_set); (focus (clean_wf; done)))
  | ((with_reducible apply s_set); (focus (clean_wf; done)))
  | ((with_reducible apply q_aug (hx := rfl)); (focus (clean_wf; done)))
  | ((with_reducible apply s_aug (hx := rfl)); (focus (clean_wf; done)))
  | ((with_reducible apply q_augC (hx := rfl)); (focus (clean_wf; done)))
  | ((with_reducible apply s_augC (hx := rfl)); (focus (clean_wf; done))))
local macro_rules | `(tactic| subst_eqs) => `(tactic| repeat' (first
  | with_reducible apply w_c
  | ((with_reducible apply w_v'); (focus rfl))
  | with_reducible apply w_op
  | with_reducible apply w_cb
  | with_reducible apply w_cons
  | with_reducible apply w_nil
  | with_reducible apply r_add
  | with_reducible apply r_sub
  | ((with_reducible apply r_mul); (focus (bv_omega; done)))
  | ((with_reducible apply r_div); (focus (bv_omega; done)))
  | ((with_reducible apply r_mod); (focus (bv_omega; done)))
  | ((with_reducible apply r_pow); (focus (bv_omega; done)))
  | with_reducible apply r_lt
  | with_reducible apply r_le
  | with_reducible apply r_gt
  | with_reducible apply r_ge
  | with_reducible apply r_min
  | with_reducible apply r_max
  | with_reducible apply r_intB
  | ((with_reducible apply r_len); (focus (array_get_dec; done)))
  | with_reducible apply w_callW
  | with_reducible apply q_setW
  | with_reducible apply s_setW
  | with_reducible apply s_retW))

/-- a row stands at a -/
structure RowAt (H : Hp) (a : Addr) (row : List Nat) : Prop where
  at_ : H a = some (.lst (zv row))
  w : Rw row
  ne : row ≠ []
theorem RowAt.ex {H H' : Hp} {a : Addr} {row : List Nat} (r : RowAt H a row) (e : Ex H H') : RowAt H' a row := ⟨e _ _ r.at_, r.w, r.ne⟩
theorem RowAt.g {H : Hp} {a : Addr} {row : List Nat} (r : RowAt H a row) : Good row := r.w.good
theorem RowAt.sq {K : PySem.W.Frag} {H : Hp} {a : Addr} {row : List Nat} (r : RowAt H a row) : SqL K H a (zv row) := sq_at r.at_
theorem RowAt.len {H : Hp} {a : Addr} {row : List Nat} (r : RowAt H a row) : 0 < row.length ∧ row.length ≤ 6 := ⟨List.length_pos_iff.mpr r.ne, r.w.le⟩
theorem topN_next {row : List Nat} (w : Rw row) (hne : row ≠ []) {n : Nat} (h : n ≤ topN row) : Fits (row.drop 1) (n * 97) ∧ n < 2 ^ 63 := by
  have h0 : 0 < row.length := List.length_pos_iff.mpr hne
  have := w.le
  unfold topN at h
  unfold Fits
  rw [List.length_drop]
  split at h <;> omega
section
variable {K : PySem.W.Frag} {σ : L2.St} {H : Hp} {ta tb tc : TE} {a : Addr} {row : List Nat} {b n lo hi m T : Nat}
open Classical in
theorem e_made [nd : Nod H] (r : RowAt H a row) (ha : Ev ta σ H (.ref a)) (hb : Ev tb σ H (.int (n : Int))) : Ev (tCall (sp_is_made_of K) [] E0 (tCons ta (tCons tb tNil))) σ H (.bl (decide (0 < n ∧ Mk row n))) := ev_call (ea_2 ha hb) fun Q q => ⟨nd, a, row, n, rfl, r.at_, r.w, r.ne, q⟩
theorem e_many [nd : Nod H] (r : RowAt H a row) (f : Fits row b) (ha : Ev ta σ H (.ref a)) (hb : Ev tb σ H (.int (b : Int))) : Ev (tCall (sp_many_to K) [] E0 (tCons ta (tCons tb tNil))) σ H (.int (cnt row b : Int)) := ev_call (ea_2 ha hb) fun Q q => ⟨nd, a, row, b, rfl, r.at_, r.w, r.ne, f, q⟩
theorem e_between [nd : Nod H] (r : RowAt H a row) (f : Fits row hi) (ha : Ev ta σ H (.ref a)) (hb : Ev tb σ H (.int (lo : Int))) (hc : Ev tc σ H (.int (hi : Int))) : Ev (tCall (sp_many_between K) [] E0 (tCons ta (tCons tb (tCons tc tNil)))) σ H (.int (if hi < lo then 0 else (cnt row hi : Int) - (cnt row (lo - 1) : Int))) := ev_call (ea_3 ha hb hc) fun Q q => ⟨nd, a, row, lo, hi, rfl, r.at_, r.w, r.ne, f, q⟩
theorem e_next [nd : Nod H] (r : RowAt H a row) (f : Fits (row.drop 1) (n * 97) ∧ n < 2 ^ 63) (ha : Ev ta σ H (.ref a)) (hb : Ev tb σ H (.int (n : Int))) : Ev (tCall (sp_next_one K) [] E0 (tCons ta (tCons tb tNil))) σ H (.int (nxt row n : Int)) := ev_call (ea_2 ha hb) fun Q q => ⟨nd, a, row, n, rfl, r.at_, r.w, r.ne, f.1, f.2, fun m hm => by rw [nxt_eq hm] at q; exact q⟩
noncomputable def lastV (row : List Nat) (n : Nat) : V := if n < 2 then .non else .int (lst row n : Int)
theorem e_last [nd : Nod H] (r : RowAt H a row) (f : Fits (row.drop 1) (n - 1)) (ha : Ev ta σ H (.ref a)) (hb : Ev tb σ H (.int (n : Int))) : Ev (tCall (sp_last_one K) [] E0 (tCons ta (tCons tb tNil))) σ H (lastV row n) := ev_call (ea_2 ha hb) fun Q q => ⟨nd, a, row, n, rfl, r.at_, r.w, r.ne, f, fun v hv => by
  rcases hv with ⟨h1, rfl⟩ | ⟨m, h1, h2, rfl⟩
  · rw [lastV, if_pos h1] at q; exact q
  · rw [lastV, if_neg (by omega), lst_eq h2] at q; exact q⟩
theorem e_all [nd : Nod H] (r : RowAt H a row) (f : Fits row b) (ha : Ev ta σ H (.ref a)) (hb : Ev tb σ H (.int (b : Int))) : EvL (tCall (sp_all_to K) [] E0 (tCons ta (tCons tb tNil))) σ H (zv (allL row b)) := el_call (ea_2 ha hb) fun Q q => ⟨nd, a, row, b, rfl, r.at_, r.w, r.ne, f, q⟩
theorem e_first [nd : Nod H] (r : RowAt H a row) (hm : m ≤ 9000000 ∧ m ≤ cnt row T) (hT : T < 2 ^ 7000) (ha : Ev ta σ H (.ref a)) (hb : Ev tb σ H (.int (m : Int))) : EvL (tCall (sp_first_ones K) [] E0 (tCons ta (tCons tb tNil))) σ H (zv (fst row m)) := el_call (ea_2 ha hb) fun Q q => ⟨nd, a, row, m, T, rfl, r.at_, r.w, r.ne, hm.1, hm.2, hT, fun p l hp hl => by rw [fst_eq r.g r.ne hl]; exact q p hp⟩
end
/-! ### by place -/
def sp_one_at (K : PySem.W.Frag) : Sp := fun vs H Q _ => Nod H ∧ ∃ (a : Addr) (row : List Nat) (k T : Nat), vs = [.ref a, .int (k : Int)] ∧ RowAt H a row ∧ k < 9000000 ∧ k < cnt row T ∧ T < 2 ^ 7000 ∧ Q (.int (nth row k : Int)) H
/-- slots: row place -/
abbrev n_one_at : List Str := ["row", "place"]
def t_one_at (K : PySem.W.Frag) : TS := (sFg (tSeq (tDrop (tCall (sp_need_row K) [] E0 (tCons (tVar 0) tNil)))
  (tSeq (tIfS (tOr (tNot (tB (tCall (sp_is_whole K) [] E0 (tCons (tVar 1) tNil)))) (tTest (tOp oLt (tVar 1) (tC (.int 0))))) tNever tNext)
  (tRet (tFg (tOp (rIxL K) (tCall (sp_first_ones K) [] E0 (tCons (tVar 0) (tCons (tOp oAdd (tVar 1) (tC (.int 1))) tNil))) (tVar 1)))))))
theorem r_one_at {K : PySem.W.Frag} {vs : List V} {H : Hp} {Q : VK} {E : XK} (h : sp_one_at K vs H Q E) : t_one_at K { nx := fun _ H' => Q .non H', rt := Q } (start n_one_at vs) H := by
  obtain ⟨nd, a, row, k, T, rfl, r, hk, hkT, hT, q⟩ := h
  refine fg_body (need rfl r.at_ r.w r.ne (q_never (ep_or (ep_not (ep_b (ev_call (v := .bl true) (ea_1 (ev_v 1)) fun Q q => ⟨nd, _, rfl, q⟩))) fun _ => by clean_wf) (by simp) ?_))
  refine s_ret (ev_pick (v := .int (nth row k : Int)) (e_first (m := k + 1) (T := T) r ⟨by omega, by omega⟩ hT (ev_v 0) (ev_eq (ev_add (i := (k : Int)) (ev_v 1) ev_c) rfl)) (fun p hp => ev_v 1) ?_) ⟨H, fg_same ex_refl, q⟩
  exact at_of rfl (zv_get (fst_get (by omega)))
def sp_place_of (K : PySem.W.Frag) : Sp := fun vs H Q _ => Nod H ∧ ∃ (a : Addr) (row : List Nat) (n : Nat), vs = [.ref a, .int (n : Int)] ∧ RowAt H a row ∧ Mk row n ∧ Fits row n ∧ Q (.int ((cnt row n - 1 : Nat) : Int)) H
/-- slots: row thing -/
abbrev n_place_of : List Str := ["row", "thing"]
def t_place_of (K : PySem.W.Frag) : TS := (sFg (tSeq (tIfS (tNot (tB (tCall (sp_is_made_of K) [] E0 (tCons (tVar 0) (tCons (tVar 1) tNil))))) tNever tNext)
  (tRet (tOp oSub (tCall (sp_many_to K) [] E0 (tCons (tVar 0) (tCons (tVar 1) tNil))) (tC (.int 1))))))
open Classical in
theorem r_place_of {K : PySem.W.Frag} {vs : List V} {H : Hp} {Q : VK} {E : XK} (h : sp_place_of K vs H Q E) : t_place_of K { nx := fun _ H' => Q .non H', rt := Q } (start n_place_of vs) H := by
  obtain ⟨nd, a, row, n, rfl, r, hm, f, q⟩ := h
  have h0 := mk_pos r.g.ge hm
  have hc := cnt_pos (row := row) h0
  refine fg_body (q_never (ep_not (ep_bd (e_made r (ev_v 0) (ev_v 1)))) (fun z => z ⟨h0, hm⟩) (s_ret (ev_eq (ev_sub (e_many r f (ev_v 0) (ev_v 1)) ev_c) ?_) ⟨H, fg_same ex_refl, q⟩))
  congr 1
  omega
end Px
set_option Elab.async false
set_option linter.all false
set_option maxRecDepth 100000
set_option maxHeartbeats 4000000
namespace Px
open PySem PySem.Spec PyProof.Rows L2
/-! ### ValueError('..') as a thing -/
def veH (a : Addr) : HO := .ext fun h => PySem.W.KitAt a "ValueError" h
def tVE : TE := fun _ H Q => ∀ a, H a = none → Q (.ref a) (upd H a (veH a))
section
variable {X : Cx}
theorem pe_ve {m : Str} {j : Nat} {p p2 pos : Pos} (hm : X.mg "ValueError" = none) (hg : Gl X "ValueError" := by rfl) : PE X (.Call (.Name "ValueError" p) [.Constant (.str m) j p2] [] pos) tVE := by
  refine ⟨fun pins s σ H Q J h => ?_⟩
  have ha : PA X [.Constant (.str m) j p2] (tCons (tC (.str m)) tNil) := pa_cons pe_str pa_nil
  refine wpAny_Call_Name_kw (ld_blt J hg hm boot_ValueError ?_ (by decide) (by decide))
  refine PyProof.Rows.callWith_type1 (thn (ha.run pos pins s σ H (fun vs H1 => vs = [V.str m] ∧ H = H1) J ⟨rfl, rfl⟩) fun us s1 hh => ?_) rfl rfl
  obtain ⟨vs, H1, I1, r1, ev, eH⟩ := hh
  subst ev
  subst eH
  obtain ⟨hp1, g1, d1, tk1, os1⟩ := s1
  refine wpAny_call_exc exb_ValueError.call (fun h' a mk => ?_) (by rw [← r1.length]; show 1 ≤ sizeLine; rw [sizeLine_eq]; omega)
  have hx := PySem.Heap.MadeExc.of mk
  have hn : H a = none := I1.hok.gone mk.new
  obtain ⟨t, ht, _, _⟩ := hx.there
  refine ⟨.ref a, upd H a (veH a), I1.laidN hx.keeps hx.new hn ⟨⟨_, ht, rfl⟩, ⟨_, ht⟩, fun h1 h2 ⟨o, e1, e2⟩ k => ⟨o, k o e1, e2⟩⟩, rfl, h a hn⟩
end
/-- what isinstance may be asked of -/
def TyW (K : PySem.W.Frag) (H : Hp) (v : V) (t : Value) : Prop := TyX K H v t ∨ ∃ a, v = .ref a ∧ H a = some (veH a) ∧ t = .type "ValueError"
def rIsW (K : PySem.W.Frag) : List V → Hp → VK → Prop := fun xs H Q => ∃ (x c : V) (t u : Value) (b : Bool), xs = [x, c] ∧ ClsV c u ∧ TyW K H x t ∧ PySem.W.kitOne K t u = some b ∧ Q (.bl b) H
theorem call_isW {X : Cx} : CallR X (.builtin "isinstance") (rIsW X.K) := by
  intro pins s σ H xs us Q I r h
  obtain ⟨x, c, t, u, b, rfl, k, ty, e, q⟩ := h
  rcases ty with ty | ⟨a, rfl, ha, rfl⟩
  · exact call_isi pins s σ H _ us Q I r ⟨x, c, t, u, b, rfl, k, ty, e, q⟩
  · obtain ⟨u1, u2, rfl, r1, r2⟩ := vals2 r
    have e2 := k.eq r2
    subst e2
    cases (show u1 = Value.ref a from r1)
    obtain ⟨J, _⟩ := (show ObjOk X.prog X.w H s.heap a (veH a) from I.hok a _ ha)
    exact PySem.W.kia_one (PySem.W.kitx_bexc PySem.F.excAttr_ValueError (by kernel_rfl) (by kernel_rfl) (by decide)) I.kIn J e (fun z => nomatch z) fun tk => ⟨.bl b, H, I.tok tk, rfl, q⟩
theorem ev_isW {K : PySem.W.Frag} {σ : L2.St} {H : Hp} {ta tb : TE} {x c : V} {t0 u0 : Value} {b : Bool} (ha : Ev ta σ H x) (hb : Ev tb σ H c) (k : ClsV c u0) (ty : TyW K H x t0) (e : PySem.W.kitOne K t0 u0 = some b) : Ev (tCB (rIsW K) (tCons ta (tCons tb tNil))) σ H (.bl b) := ev_cb (ea_2 ha hb) fun _ q => ⟨x, c, t0, u0, b, rfl, k, ty, e, q⟩
end Px
set_option Elab.async false
set_option linter.all false
set_option maxRecDepth 100000
set_option maxHeartbeats 4000000
namespace Px
open PySem PySem.Spec PyProof.Rows L2 MA
local macro_rules | `(tactic| bv_omega) => `(tactic| first | assumption | omega | exact cm (by omega) | exact cd (by omega) | exact cp (by omega) | exact trivial)
local macro_rules | `(tactic| array_get_dec) => `(tactic| first
  | assumption
  | exact sq_up
  | exact Own.sqi (by assumption) 0 (by rfl)
  | exact Own.sqi (by assumption) 1 (by rfl)
  | exact Own.sqi (by assumption) 2 (by rfl)
  | exact Own.sqi (by assumption) 3 (by rfl)
  | exact Own.sqi (by assumption) 4 (by rfl)
  | exact Own.sq (by assumption) (by assumption)
  | exact sq_new (by assumption) (by assumption))
local macro_rules | `(tactic| clean_wf) => `(tactic| first
  | with_reducible exact ev_c
  | (with_reducible apply ev_v') <;> rfl
  | (with_reducible apply ev_add) <;> clean_wf
  | (with_reducible apply ev_sub) <;> clean_wf
  | (with_reducible apply ev_mul) <;> clean_wf
  | (with_reducible apply ev_mod) <;> clean_wf
  | (with_reducible apply ev_div) <;> clean_wf
  | (with_reducible apply ev_pow) <;> clean_wf
  | (with_reducible apply ev_neg) <;> clean_wf
  | (with_reducible apply ev_lt) <;> clean_wf
  | (with_reducible apply ev_le) <;> clean_wf
  | (with_reducible apply ev_gt) <;> clean_wf
  | (with_reducible apply ev_ge) <;> clean_wf
  | (with_reducible apply ev_eqi) <;> clean_wf
  | (with_reducible apply ev_nei) <;> clean_wf
  | (with_reducible apply ev_len) <;> clean_wf
  | (with_reducible apply ev_ixL) <;> clean_wf
  | (with_reducible apply ev_min) <;> clean_wf
  | (with_reducible apply ev_max) <;> clean_wf
  | (with_reducible apply ev_abs) <;> clean_wf
  | (with_reducible apply ev_intB) <;> clean_wf
  | (with_reducible apply ea_1) <;> clean_wf
  | (with_reducible apply ea_2) <;> clean_wf
  | (with_reducible apply ea_3) <;> clean_wf
  | with_reducible exact ea_nil
  | (with_reducible apply ea_cons) <;> clean_wf
  | with_reducible exact el_nil
  | (with_reducible apply ep_lt) <;> clean_wf
  | (with_reducible apply ep_le) <;> clean_wf
  | (with_reducible apply ep_gt) <;> clean_wf
  | (with_reducible apply ep_ge) <;> clean_wf
  | (with_reducible apply ep_eqi) <;> clean_wf
  | (with_reducible apply ep_nei) <;> clean_wf
  | (with_reducible apply ep_not) <;> clean_wf
  | ((with_reducible apply ep_and) <;> first | (intro _; clean_wf; done) | clean_wf)
  | ((with_reducible apply ep_or) <;> first | (intro _; clean_wf; done) | clean_wf)
  | (with_reducible apply et_t) <;> clean_wf
  | (with_reducible apply eo_is) <;> clean_wf
  | with_reducible exact eo_no
  | array_get_dec
  | bv_omega
  | rfl
  | skip)
local macro_rules | `(tactic| symm_saturate) => `(tactic| first
  | ((with_reducible apply q_set); (focus (clean_wf; done)))
  | ((with_reducible apply s_set); (focus (clean_wf; done)))
  | ((with_reducible apply q_aug (hx := rfl)); (focus (clean_wf; done)))
  | ((with_reducible apply s_aug (hx := rfl)); (focus (clean_wf; done)))
  | ((with_reducible apply q_augC (hx := rfl)); (focus (clean_wf; done)))
  | ((with_reducible apply s_augC (hx := rfl)); (focus (clean_wf; done))))
local macro_rules | `(tactic| subst_eqs) => `(tactic| repeat' (first
  | with_reducible apply w_c
  | ((with_reducible apply w_v'); (focus rfl))
  | with_reducible apply w_op
  | with_reducible apply w_cb
  | with_reducible apply w_cons
  | with_reducible apply w_nil
  | with_reducible apply r_add
  | with_reducible apply r_sub
  | ((with_reducible apply r_mul); (focus (bv_omega; done)))
  | ((with_reducible apply r_div); (focus (bv_omega; done)))
  | ((with_reducible apply r_mod); (focus (bv_omega; done)))
  | ((with_reducible apply r_pow); (focus (bv_omega; done)))
  | with_reducible apply r_lt
  | with_reducible apply r_le
  | with_reducible apply r_gt
  | with_reducible apply r_ge
  | with_reducible apply r_min
  | with_reducible apply r_max
  | with_reducible apply r_intB
  | ((with_reducible apply r_len); (focus (array_get_dec; done)))
  | with_reducible apply w_callW
  | with_reducible apply q_setW
  | with_reducible apply s_setW
  | with_reducible apply s_retW))

/-! ### != of things -/
theorem same_items {A : Around} {s : Shared} : ∀ {xs : List V} {us ws : List Value}, Vals xs us → Vals xs ws → (∀ v ∈ xs, flatB v = true ∨ ∃ c, v = .ref c) → ∀ j (h1 : j < us.length) (h2 : j < ws.length), SeqAt.EqAt A s us[j] ws[j] true
  | [], _, _, .nil, .nil, _ => fun j h1 _ => absurd h1 (Nat.not_lt_zero j)
  | x :: xs, _, _, .cons a1 b1, .cons a2 b2, h => fun j h1 h2 => by
    cases j with
    | zero =>
      rcases h x List.mem_cons_self with f | ⟨c, rfl⟩
      · exact eqAt_same a1 a2 f
      · cases a1
        cases a2
        exact SeqAt.EqAt.same _
    | succ j => exact same_items b1 b2 (fun v hv => h v (List.mem_cons_of_mem _ hv)) j (Nat.lt_of_succ_lt_succ h1) (Nat.lt_of_succ_lt_succ h2)
def rNeX (K : PySem.W.Frag) : R2 := fun x y H Q => rNeD K x y H Q ∨
  (∃ a b xs ys, x = .ref a ∧ y = .ref b ∧ SqL K H a xs ∧ SqL K H b ys ∧ xs.length ≠ ys.length ∧ Q (.bl true) H) ∨
  (∃ a b xs, x = .ref a ∧ y = .ref b ∧ SqL K H a xs ∧ SqL K H b xs ∧ (∀ v ∈ xs, flatB v = true ∨ ∃ c, v = .ref c) ∧ Q (.bl false) H) ∨
  (∃ a xs, x = .ref a ∧ y = .ref a ∧ SqT K H a xs ∧ Q (.bl false) H) ∨ rNeDA x y H Q
theorem op_neX {X : Cx} (hu : X.A.units + 64 < cLine) : OpR X (compareOp .NotEq) (rNeX X.K) := by
  intro pins s σ H x y v u Q I rx ry h
  rcases h with h | ⟨a, b, xs, ys, rfl, rfl, ha, hb, hl, q⟩ | ⟨a, b, xs, rfl, rfl, ha, hb, hf, q⟩ | ⟨a, xs, rfl, rfl, ha, q⟩ | h
  · exact op_neD hu pins s σ H x y v u Q I rx ry h
  · cases (show v = Value.ref a from rx)
    cases (show u = Value.ref b from ry)
    obtain ⟨us, r1, p1, _⟩ := I.list ha
    obtain ⟨ws, r2, p2, _⟩ := I.list hb
    refine SeqAt.RcNeAt.lists_lengths p1.isList p2.isList ?_ (by omega) _ _ _ _ ⟨.bl true, H, I, rfl, q⟩
    rw [List.size_toArray, List.size_toArray, ← r1.length, ← r2.length]
    simpa using hl
  · cases (show v = Value.ref a from rx)
    cases (show u = Value.ref b from ry)
    obtain ⟨us, r1, p1, _⟩ := I.list ha
    obtain ⟨ws, r2, p2, _⟩ := I.list hb
    refine SeqAt.RcNeAt.lists (e := fun _ => true) p1.isList p2.isList (by rw [List.size_toArray, List.size_toArray, ← r1.length, ← r2.length]) (by omega) (fun j h1 h2 => ?_) _ _ _ _ ⟨.bl false, H, I, ?_, q⟩
    · have k := same_items (A := X.A.in1) (s := s) r1 r2 hf j (by simpa using h1) (by simpa using h2)
      simpa using k
    · rw [show ((List.range us.toArray.size).all fun _ => true) = true from List.all_eq_true.mpr fun _ _ => rfl]
      rfl
  · cases (show v = Value.ref a from rx)
    cases (show u = Value.ref a from ry)
    obtain ⟨us, r1, ht, _⟩ := I.tuple ha
    refine SeqAt.RcNeAt.tuples (e := fun _ => true) ht ht (by omega) (fun j h1 h2 => SeqAt.EqAt.same _) _ _ _ _ ⟨.bl false, H, I, ?_, q⟩
    rw [show ((List.range (min us.toArray.size us.toArray.size)).all fun _ => true) = true from List.all_eq_true.mpr fun _ _ => rfl]
    simp
    rfl
  · exact op_ne_dictA (by omega) pins s σ H x y v u Q I rx ry h
/-! ### things that are no rows -/
theorem tyw_ex {K : PySem.W.Frag} {H H' : Hp} {v : V} {t : String} (e : Ex H H') (h : TyW K H v (.type t)) : TyW K H' v (.type t) := by
  rcases h with h | ⟨a, rfl, ha, ht⟩
  · refine .inl ?_
    cases h with
    | base h =>
      refine .base ?_
      cases h with
      | non => exact .non
      | bl x => exact .bl x
      | int i => exact .int i
      | str x => exact .str x
      | flt x => exact .flt x
      | lst h => exact .lst (e _ _ h)
      | frz h => exact .frz (e _ _ h)
      | tup h => exact .tup (e _ _ h)
      | dK h => exact .dK (e _ _ h)
      | dT h => exact .dT (e _ _ h)
    | byt b => exact .byt b
    | set h => exact .set (e _ _ h)
    | kList h c => exact .kList h c
    | kTuple h c => exact .kTuple h c
    | kDict h c => exact .kDict h c
    | fTuple h => exact .fTuple (e _ _ h)
    | fDict h => exact .fDict (e _ _ h)
  · exact .inr ⟨a, rfl, e _ _ ha, ht⟩
/-- no list -/
def NoLi (K : PySem.W.Frag) (H : Hp) (v : V) : Prop := ∃ t, TyW K H v (.type t) ∧ kitB t "list" = some false
/-- no int -/
def NoIn (K : PySem.W.Frag) (H : Hp) (v : V) : Prop := ∃ t, TyW K H v (.type t) ∧ kitB t "int" = some false
/-- no prime below 100 -/
def NoP (K : PySem.W.Frag) (H : Hp) (v : V) : Prop := NoIn K H v ∨ (∃ c, v = .bl c) ∨ ∃ i : Int, v = .int i ∧ ∀ n ∈ PR, i ≠ (n : Int)
def BadRow (K : PySem.W.Frag) (H : Hp) (v : V) : Prop := NoLi K H v ∨ ∃ (a : Addr) (xs : List V), v = .ref a ∧ H a = some (.lst xs) ∧ (∀ x ∈ xs, (∃ n ∈ PR, x = .int (n : Int)) ∨ NoP K H x) ∧ ∀ row, Rw row → row ≠ [] → xs ≠ zv row
theorem NoP.ex {K : PySem.W.Frag} {H H' : Hp} {v : V} (h : NoP K H v) (e : Ex H H') : NoP K H' v := by
  rcases h with ⟨t, ty, k⟩ | h | h
  · exact .inl ⟨t, tyw_ex e ty, k⟩
  · exact .inr (.inl h)
  · exact .inr (.inr h)
theorem BadRow.ex {K : PySem.W.Frag} {H H' : Hp} {v : V} (h : BadRow K H v) (e : Ex H H') : BadRow K H' v := by
  rcases h with ⟨t, ty, k⟩ | ⟨a, xs, rfl, ha, hx, hr⟩
  · exact .inl ⟨t, tyw_ex e ty, k⟩
  · exact .inr ⟨a, xs, rfl, e _ _ ha, fun x h => (hx x h).imp id fun z => z.ex e, hr⟩
section
variable {K : PySem.W.Frag} {B : Hp}
theorem pn_int {i : Int} (h : ∀ n ∈ PR, i ≠ (n : Int)) : NoP K B (.int i) := .inr (.inr ⟨i, rfl, h⟩)
theorem pn_ty {v : V} (t : String) (h : TyOf K B v (.type t)) (k : kitB t "int" = some false) : NoP K B v := .inl ⟨t, .inl (.base h), k⟩
theorem pn_bl {c : Bool} : NoP K B (.bl c) := .inr (.inl ⟨c, rfl⟩)
theorem pn_non : NoP K B .non := pn_ty "NoneType" .non (by decide +kernel)
theorem pn_str {z : Str} : NoP K B (.str z) := pn_ty "str" (.str _) (by decide +kernel)
theorem pn_lst {a : Addr} {xs : List V} (h : B a = some (.lst xs)) : NoP K B (.ref a) := pn_ty "list" (.lst h) (by decide +kernel)
theorem pn_tup {a : Addr} {xs : List V} (h : B a = some (.tup xs)) : NoP K B (.ref a) := pn_ty "tuple" (.tup h) (by decide +kernel)
theorem pn_dK {a : Addr} {kvs : List (Key × V)} (h : B a = some (.dK kvs)) : NoP K B (.ref a) := pn_ty "dict" (.dK h) (by decide +kernel)
theorem bl_ty {v : V} (t : String) (h : TyOf K B v (.type t)) (k : kitB t "list" = some false) : BadRow K B v := .inl ⟨t, .inl (.base h), k⟩
theorem bl_non : BadRow K B .non := bl_ty "NoneType" .non (by decide +kernel)
theorem bl_int {i : Int} : BadRow K B (.int i) := bl_ty "int" (.int i) (by decide +kernel)
theorem bl_bl {c : Bool} : BadRow K B (.bl c) := bl_ty "bool" (.bl c) (by decide +kernel)
theorem bl_str {z : Str} : BadRow K B (.str z) := bl_ty "str" (.str _) (by decide +kernel)
theorem bl_tup {a : Addr} {xs : List V} (h : B a = some (.tup xs)) : BadRow K B (.ref a) := bl_ty "tuple" (.tup h) (by decide +kernel)
theorem bl_dK {a : Addr} {kvs : List (Key × V)} (h : B a = some (.dK kvs)) : BadRow K B (.ref a) := bl_ty "dict" (.dK h) (by decide +kernel)
end
/-! ### whole numbers -/
def sp_is_wholeX (K : PySem.W.Frag) : Sp := fun vs H Q _ => Nod H ∧ ∃ (v : V) (r : Bool), vs = [v] ∧ ((∃ i : Int, v = .int i ∧ r = true) ∨ ((NoIn K H v ∨ ∃ c, v = .bl c) ∧ r = false)) ∧ Q (.bl r) H
/-- slots: thing -/
abbrev n_is_wholeX : List Str := ["thing"]
def t_is_wholeX (K : PySem.W.Frag) : TS := (sFg (tRet (tAndV (tCB (rIsW K) (tCons (tVar 0) (tCons (tC (.ty "int")) tNil))) (tNotV (tCB (rIsW K) (tCons (tVar 0) (tCons (tC (.ty "bool")) tNil)))))))
theorem r_is_wholeX {K : PySem.W.Frag} {vs : List V} {H : Hp} {Q : VK} {E : XK} (h : sp_is_wholeX K vs H Q E) : t_is_wholeX K { nx := fun _ H' => Q .non H', rt := Q } (start n_is_wholeX vs) H := by
  obtain ⟨nd, v, r, rfl, h, q⟩ := h
  rcases h with ⟨i, rfl, rfl⟩ | ⟨⟨t, ty, k⟩ | ⟨c, rfl⟩, rfl⟩
  · exact fg_body (s_ret (ev_and (ev_isW (ev_v 0) ev_c (.ty "int") (.inl (.base (.int i))) (kit_ty (r := true) (by decide +kernel))) fun _ => ev_not (ev_isW (ev_v 0) ev_c (.ty "bool") (.inl (.base (.int i))) (kit_ty (r := false) (by decide +kernel)))) ⟨H, fg_same ex_refl, q⟩)
  · exact fg_body (s_ret (v := .bl false) (ev_and (a := false) (b := false) (ev_isW (ev_v 0) ev_c (.ty "int") ty (kit_ty (r := false) k)) fun z => nomatch z) ⟨H, fg_same ex_refl, q⟩)
  · exact fg_body (s_ret (v := .bl false) (ev_and (a := true) (b := false) (ev_isW (ev_v 0) ev_c (.ty "int") (.inl (.base (.bl c))) (kit_ty (r := true) (by decide +kernel))) fun _ => ev_eq (ev_not (ev_isW (ev_v 0) ev_c (.ty "bool") (.inl (.base (.bl c))) (kit_ty (r := true) (by decide +kernel)))) rfl) ⟨H, fg_same ex_refl, q⟩)
/-! ### rows -/
theorem w_nextX {D : Ends} {σ : L2.St} {H : Hp} (h : D.nx σ H) : tNext D σ H := h
theorem up_adj : ∀ {l : List Nat}, (∀ (i x y : Nat), l[i]? = some x → (l.drop 1)[i]? = some y → x < y) → l.Pairwise (· < ·)
  | [], _ => List.Pairwise.nil
  | [a], _ => by simp
  | a :: b :: r, h => by
    have ih : (b :: r).Pairwise (· < ·) := up_adj fun i x y h1 h2 => h (i + 1) x y (by simpa using h1) (by simpa using h2)
    have hab := h 0 a b rfl rfl
    refine List.Pairwise.cons (fun c hc => ?_) ih
    rcases List.mem_cons.mp hc with rfl | hc
    · exact hab
    · have := (List.pairwise_cons.mp ih).1 c hc
      omega
theorem inV_no {l : List Nat} {i : Int} (h : ∀ n ∈ l, i ≠ (n : Int)) : inV (.int i) (zv l) = false := by
  induction l with
  | nil => rfl
  | cons a l ih =>
    show (eqV (.int (a : Int)) (.int i) || inV (.int i) (zv l)) = _
    rw [ih fun n hn => h n (List.mem_cons_of_mem _ hn)]
    have e : eqV (.int (a : Int)) (.int i) = decide ((a : Int) = i) := rfl
    rw [e, decide_eq_false (fun z => h a List.mem_cons_self z.symm)]
    rfl
theorem all_zv : ∀ {xs : List V}, (∀ x ∈ xs, ∃ n ∈ PR, x = .int (n : Int)) → ∃ l : List Nat, xs = zv l ∧ ∀ n ∈ l, n ∈ PR
  | [], _ => ⟨[], rfl, by simp⟩
  | x :: xs, h => by
    obtain ⟨n, hn, rfl⟩ := h x List.mem_cons_self
    obtain ⟨l, e, hl⟩ := all_zv fun y hy => h y (List.mem_cons_of_mem _ hy)
    exact ⟨n :: l, by rw [e]; rfl, fun m hm => (List.mem_cons.mp hm).elim (fun z => z ▸ hn) (hl m)⟩
def sp_is_rowX (K : PySem.W.Frag) : Sp := fun vs H Q _ => Nod H ∧ ∃ (v : V) (r : Bool), vs = [v] ∧ ((∃ a row, v = .ref a ∧ RowAt H a row ∧ r = true) ∨ (BadRow K H v ∧ r = false)) ∧ Q (.bl r) H
/-- slots: thing one further -/
abbrev n_is_rowX : List Str := ["thing", "one", "further"]
def t_is_rowX (K : PySem.W.Frag) (a_PRIMES : Addr) : TS := (sFg (tSeq (tIfS (tOr (tNot (tB (tCB (rIsW K) (tCons (tVar 0) (tCons (tC (.ty "list")) tNil))))) (tNot (tTest (tChain oLe oLe (tC (.int 1)) (tCB (cLen K) (tCons (tVar 0) tNil)) (tC (.int 6)))))) (tRet (tC (.bl false))) tNext)
  (tSeq (tIfS (tTest (tOp (rNeX K) (tLc (iList K (tVar 0)) (gName 1) (tOr (tNot (tB (tCall (sp_is_wholeX K) [] E0 (tCons (tVar 1) tNil)))) (tTest (tOp (rIn K true) (tVar 1) (tC (.ref a_PRIMES))))) (tVar 1) [1]) (tLst tNil))) (tRet (tC (.bl false))) tNext)
  (tRet (tOp (rEqD K) (tLc (iZip K (tCons (tVar 0) (tCons (tSl (rSlL K) (tVar 0) (tPart (tC (.int 1))) tNoPart) tNil))) (gTup K 2 (gCons (gName 1) (gCons (gName 2) gNil))) (tTest (tOp oLe (tVar 2) (tVar 1))) (tC (.int 1)) [1, 2]) (tLst tNil))))))
open Classical in
theorem r_is_rowX {K : PySem.W.Frag} {aP : Addr} (hP : PrAt K aP) {vs : List V} {H : Hp} {Q : VK} {E : XK} (h : sp_is_rowX K vs H Q E) : t_is_rowX K aP { nx := fun _ H' => Q .non H', rt := Q } (start n_is_rowX vs) H := by
  obtain ⟨nd, v, r, rfl, h, q⟩ := h
  -- a list of known things
  suffices hmain : ∀ (a : Addr) (xs : List V), v = .ref a → H a = some (.lst xs) → (∀ x ∈ xs, (∃ n ∈ PR, x = .int (n : Int)) ∨ NoP K H x) → (r = true ↔ ∃ row, Rw row ∧ row ≠ [] ∧ xs = zv row) → t_is_rowX K aP { nx := fun _ H' => Q .non H', rt := Q } (start n_is_rowX [v]) H by
    rcases h with ⟨a, row, rfl, ra, rfl⟩ | ⟨⟨t, ty, k⟩ | ⟨a, xs, rfl, ha, hx, hr⟩, rfl⟩
    · exact hmain a (zv row) rfl ra.at_ (fun x hx => by
        obtain ⟨i, hi, rfl⟩ := mem_int hx
        obtain ⟨n, hn, rfl⟩ := List.mem_map.mp hi
        exact .inl ⟨n, ra.w.mem n hn, rfl⟩) ⟨fun _ => ⟨row, ra.w, ra.ne, rfl⟩, fun _ => rfl⟩
    · exact fg_body (q_when (b := true) (et_eq (et_or (a := true) (b := true) (et_eq (et_not (et_b (ev_isW (ev_v 0) ev_c (.ty "list") ty (kit_ty (r := false) k)))) rfl) fun z => nomatch z) rfl) (fun _ => s_ret ev_c ⟨H, fg_same ex_refl, q⟩) fun z => nomatch z)
    · exact hmain a xs rfl ha hx ⟨fun z => (nomatch z), fun ⟨row, w, hne, e⟩ => (hr row w hne e).elim⟩
  clear h
  intro a xs hv ha hx hr
  subst hv
  have sa : SqL K H a xs := sq_at ha
  have no : ∀ b : Bool, b = true → (¬ ∃ row, Rw row ∧ row ≠ [] ∧ xs = zv row) → r = false := fun _ _ z => by
    cases e : r with
    | false => rfl
    | true => exact absurd (hr.mp e) z
  have isl : EvP (tB (tCB (rIsW K) (tCons (tVar 0) (tCons (tC (.ty "list")) tNil)))) (start n_is_rowX [.ref a]) H (true = true) := ep_b (ev_isW (ev_v 0) ev_c (.ty "list") (.inl (.base (.lst ha))) (kit_ty (r := true) (by decide +kernel)))
  refine fg_body (q_whenP (ep_or (ep_not isl) fun _ => ep_not (ep_chain ev_c (ev_len (ev_v 0) sa) rv_0 (fun _ => ev_c) fun _ => rv_0)) (fun hc => ?_) fun hc => ?_)
  · have hl : ¬ (1 ≤ xs.length ∧ xs.length ≤ 6) := by
      rcases hc with hc | hc
      · exact absurd rfl hc
      · intro z; exact hc (by simp; omega)
    have hf := no true rfl fun ⟨row, w, hne, e⟩ => hl (by
      have := w.le
      have := List.length_pos_iff.mpr hne
      rw [e, zv_len]; omega)
    rw [hf] at q
    exact s_ret ev_c ⟨H, fg_same ex_refl, q⟩
  have hl : 1 ≤ xs.length ∧ xs.length ≤ 6 := by
    have h2 := fun z => hc (.inr z)
    have h3 := Classical.not_not.mp h2
    simp at h3; omega
  have comp := el_lc (K := K) (H := H) (σ := start n_is_rowX [.ref a]) (tl := tVar 0) (n := 1) (vs := [1]) (t := tOr (tNot (tB (tCall (sp_is_wholeX K) [] E0 (tCons (tVar 1) tNil)))) (tTest (tOp (rIn K true) (tVar 1) (tC (.ref aP))))) (te := tVar 1) (fun x => !decide (∃ n ∈ PR, x = V.int (n : Int))) (fun x => x) (ev_v 0) sa (Nat.le_trans hl.2 (by decide)) (fun _ => rfl) (fun x hxx D acc hD => by
    have nD : Nod (upd H D (.lst acc)) := nod_upd nd trivial
    by_cases hp : ∃ n ∈ PR, x = V.int (n : Int)
    · obtain ⟨n, hn, rfl⟩ := hp
      rw [decide_eq_true ⟨n, hn, rfl⟩]
      refine ep_no (ep_or (ep_not (ep_b (ev_call (v := .bl true) (ea_1 (ev_v 1)) fun Q q => ⟨nD, _, true, rfl, .inl ⟨_, rfl, rfl⟩, q⟩))) fun _ => ep_of (et_t (ev_op (z := .bl false) (ev_v 1) ev_c fun Q q => ⟨aP, zv PR, rfl, .inl (hP _), rfl, zv_flat _, ?_⟩))) (by simp)
      rw [inV_iff, decide_eq_true hn]
      exact q
    · rw [decide_eq_false hp]
      have hno := ((hx x hxx).resolve_left hp).ex (ex_new hD (o := .lst acc))
      rcases hno with hno | ⟨c, rfl⟩ | ⟨i, rfl, hi⟩
      · exact ep_yes (ep_or (R := False) (ep_not (ep_b (ev_call (v := .bl false) (ea_1 (ev_v 1)) fun Q q => ⟨nD, _, false, rfl, .inr ⟨.inl hno, rfl⟩, q⟩))) fun z => absurd (fun y => nomatch y) z) (.inl fun y => nomatch y)
      · exact ep_yes (ep_or (R := False) (ep_not (ep_b (ev_call (v := .bl false) (ea_1 (ev_v 1)) fun Q q => ⟨nD, _, false, rfl, .inr ⟨.inr ⟨c, rfl⟩, rfl⟩, q⟩))) fun z => absurd (fun y => nomatch y) z) (.inl fun y => nomatch y)
      · refine ep_yes (ep_or (ep_not (ep_b (ev_call (v := .bl true) (ea_1 (ev_v 1)) fun Q q => ⟨nD, _, true, rfl, .inl ⟨_, rfl, rfl⟩, q⟩))) fun _ => ep_of (et_t (ev_op (z := .bl true) (ev_v 1) ev_c fun Q q => ⟨aP, zv PR, rfl, .inl (hP _), rfl, zv_flat _, ?_⟩))) (.inr rfl)
        rw [inV_no hi]
        exact q) fun x hxx _ D acc hD => ev_v 1
  refine q_ifW (w_tst (w_op (w_evL comp fun p1 hp1 => el_nil _ fun p2 hp2 => ?_)))
  rw [List.map_id'] at hp2 ⊢
  have o : Own H [] H := Own.nil
  replace o := o.new (xs := xs.filter fun x => !decide (∃ n ∈ PR, x = V.int (n : Int))) hp1
  replace o := o.new (xs := []) hp2
  by_cases hG : (xs.filter fun x => !decide (∃ n ∈ PR, x = V.int (n : Int))) = []
  rotate_left
  · refine .inr (.inl ⟨p1, p2, _, [], rfl, rfl, o.sqi 1 rfl, o.sqi 0 rfl, fun z => hG (List.length_eq_zero_iff.mp z), ⟨_, rfl, iteT ?_⟩⟩)
    have hf := no true rfl fun ⟨row, w, hne, e⟩ => hG (by
      rw [List.filter_eq_nil_iff]
      intro x hxx
      rw [e] at hxx
      obtain ⟨i, hi, rfl⟩ := mem_int hxx
      obtain ⟨n, hn, rfl⟩ := List.mem_map.mp hi
      simp only [Bool.not_eq_true', decide_eq_false_iff_not, Classical.not_not]
      exact ⟨n, w.mem n hn, rfl⟩)
    rw [hf] at q
    exact s_ret ev_c ⟨H, fg_same o.ex, q⟩
  rw [hG] at o hp2 ⊢
  refine .inl (rv_neI (ns := []) (ms := []) (o.sqi 1 rfl) (o.sqi 0 rfl) _ ⟨_, rfl, ?_⟩)
  rw [show (!decide (([] : List Int) = [])) = false by simp]
  refine iteF (w_nextX ?_)
  dsimp only
  obtain ⟨l, rfl, hlp⟩ := all_zv (xs := xs) fun x hxx => by
    have := List.filter_eq_nil_iff.mp hG x hxx
    simpa using this
  rw [zv_len] at hl
  have oB := o.base
  generalize hHH : upd (upd H p1 _) p2 _ = H1 at o oB
  have sa1 : SqL K H1 a (zv l) := o.sq sa
  refine s_retW (w_op (w_lcZ ?_))
  refine w_cons (w_v 0 (w_one (w_evL (el_sl (ev_v 0) (eo_is ev_c) eo_no sa1) fun p3 hp3 => ?_)))
  rw [show cutV (zv l) (some 1) none = zv (l.drop 1) from cut_fromN l 1] at *
  have o3 : Own H1 [(p3, zv (l.drop 1))] (upd H1 p3 (.lst (zv (l.drop 1)))) := oB.new hp3
  refine ⟨a, p3, zv l, zv (l.drop 1), rfl, o3.sq sa1, o3.sqi 0 rfl, lcat_zip (xs := zv l) (ys := zv (l.drop 1)) (fun D i H' => ∃ k : Nat, Own H1 [(D, zv (List.replicate k 1)), (p3, zv (l.drop 1))] H' ∧ k ≤ i ∧ (k = 0 ↔ ∀ (j x y : Nat), j < i → l[j]? = some x → (l.drop 1)[j]? = some y → x < y)) (fun D hD => ⟨0, o3.new hD, by omega, by simp⟩) (fun D i H' hD hI => ?_) (fun x y => rfl) (fun D i x y T H' hD hx hy hI hT => ?_) fun D H' hD hI => ?_⟩
  · obtain ⟨k, o, _⟩ := hI
    exact ⟨o.sq sa1, o.sqi 1 rfl⟩
  · obtain ⟨k, o4, hk, hiff⟩ := hI
    obtain ⟨x', e1, rfl⟩ := zv_some hx
    obtain ⟨y', e2, rfl⟩ := zv_some hy
    have hil := (List.getElem?_eq_some_iff.mp e1).1
    replace o4 := o4.tup (xs := [.int (x' : Int), .int (y' : Int)]) hT
    refine ep_le (i := (y' : Int)) (j := (x' : Int)) (ev_v 2) (ev_v 1) _ (fun hc => iteT (w_c ⟨_, o4.atI 0 rfl, by rw [zv_len, List.length_replicate]; exact szl (by omega), k + 1, ?_, by omega, ?_⟩)) fun hc => iteF ⟨k, o4, by omega, hiff.trans ⟨fun z j a b hj h1 h2 => ?_, fun z j a b hj h1 h2 => z j a b (by omega) h1 h2⟩⟩
    · rw [show zv (List.replicate k 1) ++ [V.int 1] = zv (List.replicate (k + 1) 1) by rw [List.replicate_succ']; simp]
      exact o4.mut 0 rfl
    · refine ⟨fun z => absurd z (by omega), fun z => ?_⟩
      have := z i x' y' (by omega) e1 e2
      omega
    · rcases Nat.lt_succ_iff_lt_or_eq.mp hj with hj | rfl
      · exact z j a b hj h1 h2
      · rw [e1] at h1; rw [e2] at h2; cases h1; cases h2; omega
  · obtain ⟨k, o4, hk, hiff⟩ := hI
    refine el_nil _ fun p5 hp5 => rv_eqI (ns := zl (List.replicate k 1)) (ms := []) (sq_new hp5 (o4.sqi 0 rfl)) sq_up _ ?_
    have er : decide (zl (List.replicate k 1) = []) = r := by
      have h1 : (zl (List.replicate k 1) = []) ↔ k = 0 := by
        cases k with
        | zero => simp
        | succ k => simp
      cases hrr : r with
      | true =>
        obtain ⟨row, w, hne, e⟩ := hr.mp hrr
        have e : l = row := by
          have := congrArg (List.map fun v => match v with | V.int i => i.toNat | _ => 0) e
          simp only [zl, List.map_map] at this
          have h2 : ∀ l : List Nat, l.map ((fun v => match v with | V.int i => i.toNat | _ => 0) ∘ V.int ∘ fun (x : Nat) => (x : Int)) = l := fun l => by
            rw [show ((fun v => match v with | V.int i => i.toNat | _ => 0) ∘ V.int ∘ fun (x : Nat) => (x : Int)) = id from funext fun x => by simp]; simp
          rw [h2, h2] at this
          exact this
        subst e
        exact decide_eq_true (h1.mpr (hiff.mpr fun j x y _ h1 h2 => get_up w.up h1 h2))
      | false =>
        refine decide_eq_false fun z => ?_
        have hup : l.Pairwise (· < ·) := up_adj fun i x y h1' h2' => hiff.mp (h1.mp z) i x y (by
          have := (List.getElem?_eq_some_iff.mp h2').1
          have := (List.getElem?_eq_some_iff.mp h1').1
          rw [zv_len, zv_len]
          simp at *
          omega) h1' h2'
        have := hr.mpr ⟨l, ⟨hlp, hup, hl.2⟩, fun z => by rw [z] at hl; simp at hl, rfl⟩
        rw [hrr] at this
        cases this
    rw [er]
    exact ⟨H, fg_same (ex_trans o.ex (o4.tmp hp5).ex), q⟩
end Px
set_option Elab.async false
set_option linter.all false
set_option maxRecDepth 100000
set_option maxHeartbeats 4000000
namespace Px
open PySem L2 MA
local macro_rules | `(tactic| bv_omega) => `(tactic| first | assumption | omega | exact cm (by omega) | exact cd (by omega) | exact cp (by omega) | exact trivial)
local macro_rules | `(tactic| array_get_dec) => `(tactic| first
  | assumption
  | exact sq_up
  | exact Own.sqi (by assumption) 0 (by rfl)
  | exact Own.sqi (by assumption) 1 (by rfl)
  | exact Own.sqi (by assumption) 2 (by rfl)
  | exact Own.sqi (by assumption) 3 (by rfl)
  | exact Own.sqi (by assumption) 4 (by rfl)
  | exact Own.sq (by assumption) (by assumption)
  | exact sq_new (by assumption) (by assumption))
local macro_rules | `(tactic| clean_wf) => `(tactic| first
  | with_reducible exact ev_c
  | (with_reducible apply ev_v') <;> rfl
  | (with_reducible apply ev_add) <;> clean_wf
  | (with_reducible apply ev_sub) <;> clean_wf
  | (with_reducible apply ev_mul) <;> clean_wf
  | (with_reducible apply ev_mod) <;> clean_wf
  | (with_reducible apply ev_div) <;> clean_wf
  | (with_reducible apply ev_pow) <;> clean_wf
  | (with_reducible apply ev_neg) <;> clean_wf
  | (with_reducible apply ev_lt) <;> clean_wf
  | (with_reducible apply ev_le) <;> clean_wf
  | (with_reducible apply ev_gt) <;> clean_wf
  | (with_reducible apply ev_ge) <;> clean_wf
  | (with_reducible apply ev_eqi) <;> clean_wf
  | (with_reducible apply ev_nei) <;> clean_wf
  | (with_reducible apply ev_len) <;> clean_wf
  | (with_reducible apply ev_ixL) <;> clean_wf
  | (with_reducible apply ev_min) <;> clean_wf
  | (with_reducible apply ev_max) <;> clean_wf
  | (with_reducible apply ev_abs) <;> clean_wf
  | (with_reducible apply ev_intB) <;> clean_wf
  | (with_reducible apply ea_1) <;> clean_wf
  | (with_reducible apply ea_2) <;> clean_wf
  | (with_reducible apply ea_3) <;> clean_wf
  | with_reducible exact ea_nil
  | (with_reducible apply ea_cons) <;> clean_wf
  | with_reducible exact el_nil
  | (with_reducible apply ep_lt) <;> clean_wf
  | (with_reducible apply ep_le) <;> clean_wf
  | (with_reducible apply ep_gt) <;> clean_wf
  | (with_reducible apply ep_ge) <;> clean_wf
  | (with_reducible apply ep_eqi) <;> clean_wf
  | (with_reducible apply ep_nei) <;> clean_wf
  | (with_reducible apply ep_not) <;> clean_wf
  | ((with_reducible apply ep_and) <;> first | (intro _; clean_wf; done) | clean_wf)
  | ((with_reducible apply ep_or) <;> first | (intro _; clean_wf; done) | clean_wf)
  | (with_reducible apply et_t) <;> clean_wf
  | (with_reducible apply eo_is) <;> clean_wf
  | with_reducible exact eo_no
  | array_get_dec
  | bv_omega
  | rfl
  | skip)
local macro_rules | `(tactic| symm_saturate) => `(tactic| first
  | ((with_reducible apply q_set); (focus (clean_wf; done)))
  | ((with_reducible apply s_set); (focus (clean_wf; done)))
  | ((with_reducible apply q_aug (hx := rfl)); (focus (clean_wf; done)))
  | ((with_reducible apply s_aug (hx := rfl)); (focus (clean_wf; done)))
  | ((with_reducible apply q_augC (hx := rfl)); (focus (clean_wf; done)))
  | ((with_reducible apply s_augC (hx := rfl)); (focus (clean_wf; done))))
local macro_rules | `(tactic| subst_eqs) => `(tactic| repeat' (first
  | with_reducible apply w_c
  | ((with_reducible apply w_v'); (focus rfl))
  | with_reducible apply w_op
  | with_reducible apply w_cb
  | with_reducible apply w_cons
  | with_reducible apply w_nil
  | with_reducible apply r_add
  | with_reducible apply r_sub
  | ((with_reducible apply r_mul); (focus (bv_omega; done)))
  | ((with_reducible apply r_div); (focus (bv_omega; done)))
  | ((with_reducible apply r_mod); (focus (bv_omega; done)))
  | ((with_reducible apply r_pow); (focus (bv_omega; done)))
  | with_reducible apply r_lt
  | with_reducible apply r_le
  | with_reducible apply r_gt
  | with_reducible apply r_ge
  | with_reducible apply r_min
  | with_reducible apply r_max
  | with_reducible apply r_intB
  | ((with_reducible apply r_len); (focus (array_get_dec; done)))
  | with_reducible apply w_callW
  | with_reducible apply q_setW
  | with_reducible apply s_setW
  | with_reducible apply s_retW))

/-! ### rows are needed -/
abbrev npA (K : PySem.W.Frag) : Value := .ref (He.ga K "NoPrimes")
def sp_need_rowX (K : PySem.W.Frag) : Sp := fun vs H Q E => Nod H ∧ ∃ v : V, vs = [v] ∧ (sp_need_row K [v] H Q E0 ∨ (BadRow K H v ∧ E (npA K) none H))
/-- slots: row -/
abbrev n_need_rowX : List Str := ["row"]
def t_need_rowX (K : PySem.W.Frag) (E : XK) : TS := (sFg (tIfS (tNot (tB (tCall (sp_is_rowX K) [] E0 (tCons (tVar 0) tNil)))) (tRaise (He.ga K "NoPrimes") (fun cls d _ H => E cls d H)) tNext))
theorem r_need_rowX {K : PySem.W.Frag} {vs : List V} {H : Hp} {Q : VK} {E : XK} (h : sp_need_rowX K vs H Q E) : t_need_rowX K E { nx := fun _ H' => Q .non H', rt := Q } (start n_need_rowX vs) H := by
  obtain ⟨nd, v, rfl, h⟩ := h
  rcases h with ⟨_, a, row, e, ha, w, hne, q⟩ | ⟨bad, q⟩
  · cases e
    exact fg_body (s_whenP (ep_not (ep_b (ev_call (v := .bl true) (ea_1 (ev_v 0)) fun Q q => ⟨nd, _, true, rfl, .inl ⟨a, row, rfl, ⟨ha, w, hne⟩, rfl⟩, q⟩))) (fun z => absurd rfl z) fun _ => ⟨H, fg_same ex_refl, q⟩)
  · exact fg_body (s_whenP (ep_not (ep_b (ev_call (v := .bl false) (ea_1 (ev_v 0)) fun Q q => ⟨nd, _, false, rfl, .inr ⟨bad, rfl⟩, q⟩))) (fun _ => q) fun z => absurd (fun y => nomatch y) z)
def sp_is_made_ofX (K : PySem.W.Frag) : Sp := fun vs H Q E => Nod H ∧ ∃ v w : V, vs = [v, w] ∧ (sp_is_made_of K [v, w] H Q E0 ∨ (BadRow K H v ∧ E (npA K) none H))
/-- slots: row thing -/
abbrev n_is_made_ofX : List Str := ["row", "thing"]
def t_is_made_ofX (K : PySem.W.Frag) (E : XK) : TS := (sFg (tSeq (tDrop (tCallS (sp_need_rowX K) (WE (fun cls d _ H => E cls d H)) (tCons (tVar 0) tNil)))
  (tRet (tAndV (tCall (sp_is_wholeX K) [] E0 (tCons (tVar 1) tNil)) (tAndV (tOp oGt (tVar 1) (tC (.int 0))) (tCall (sp_is_made K) [] E0 (tCons (tVar 0) (tCons (tVar 1) tNil))))))))
open Classical in
theorem r_is_made_ofX {K : PySem.W.Frag} {vs : List V} {H : Hp} {Q : VK} {E : XK} (h : sp_is_made_ofX K vs H Q E) : t_is_made_ofX K E { nx := fun _ H' => Q .non H', rt := Q } (start n_is_made_ofX vs) H := by
  obtain ⟨nd, v, x, rfl, h⟩ := h
  rcases h with ⟨_, a, row, n, e, ha, w, hne, q⟩ | ⟨bad, q⟩
  · cases e
    refine fg_body (q_drop (ea_1 (ev_v 0) _ ⟨nd, _, rfl, .inl ⟨nd, a, row, rfl, ha, w, hne, ?_⟩⟩))
    have sa : SqL K H a (zv row) := sq_at ha
    by_cases h0 : 0 < n
    · refine s_ret (v := .bl (decide (0 < n ∧ Mk row n))) (ev_eq (ev_and (a := true) (b := decide (0 < n ∧ Mk row n)) (ev_call (ea_1 (ev_v 1)) fun Q q => ⟨nd, _, true, rfl, .inl ⟨_, rfl, rfl⟩, q⟩) fun _ => ev_eq (ev_and (a := true) (b := decide (0 < n ∧ Mk row n)) (ev_eq (ev_gt (i := (n : Int)) (ev_v 1) ev_c) (by rw [decide_eq_true (by omega)])) fun _ => ev_eq (ev_call (ea_2 (ev_v 0) (ev_v 1)) fun Q q => ⟨nd, a, row, n, rfl, sa, w, h0, q⟩) ?_) (by simp)) (by simp)) ⟨H, fg_same ex_refl, q⟩
      congr 1
      exact decide_eq_decide.mpr ((stripAll_iff w.good h0).trans ⟨fun z => ⟨h0, z⟩, fun z => z.2⟩)
    · refine s_ret (v := .bl (decide (0 < n ∧ Mk row n))) (ev_eq (ev_and (a := true) (b := false) (ev_call (ea_1 (ev_v 1)) fun Q q => ⟨nd, _, true, rfl, .inl ⟨_, rfl, rfl⟩, q⟩) fun _ => ev_eq (ev_and (a := false) (b := false) (ev_eq (ev_gt (i := (n : Int)) (ev_v 1) ev_c) (by rw [decide_eq_false (by omega)])) fun z => nomatch z) rfl) ?_) ⟨H, fg_same ex_refl, q⟩
      rw [decide_eq_false fun z => h0 z.1]; rfl
  · exact fg_body (q_drop (ea_1 (ev_v 0) _ ⟨nd, _, rfl, .inr ⟨bad, q⟩⟩))
end Px
set_option linter.all false
set_option maxHeartbeats 1000000
namespace MA
/-! ### counting by the split, with fuel -/
def cntF : Nat → List Nat → Nat → Nat
  | 0, _, _ => 0
  | _ + 1, [], b => if b = 0 then 0 else 1
  | f + 1, p :: r, b => if b = 0 then 0 else cntF f r b + cntF f (p :: r) (b / p)
theorem cnt_nil_eq {b : Nat} (h : b ≠ 0) : cnt [] b = 1 := by rw [← (all_nil (b := b) (by omega)).len]; rfl
theorem cntF_eq : ∀ (f : Nat) (row : List Nat) (b k : Nat), Good row → b < 2 ^ k → row.length + k < f → cntF f row b = cnt row b
  | 0, _, _, _, _, _, h => by omega
  | f + 1, [], b, k, g, _, _ => by
    show (if b = 0 then 0 else 1) = _
    by_cases h : b = 0
    · subst h; rw [if_pos rfl, cnt_zero g.ge]
    · rw [if_neg h, cnt_nil_eq h]
  | f + 1, p :: r, b, k, g, hb, hf => by
    show (if b = 0 then 0 else cntF f r b + cntF f (p :: r) (b / p)) = _
    by_cases h : b = 0
    · subst h; rw [if_pos rfl, cnt_zero g.ge]
    · rw [List.length_cons] at hf
      cases k with
      | zero => simp at hb; omega
      | succ k =>
        have hp := g.head
        have h1 : b / p ≤ b / 2 := Nat.div_le_div_left hp (by omega)
        rw [Nat.pow_succ] at hb
        rw [if_neg h, cntF_eq f r b (k + 1) g.tail (by rw [Nat.pow_succ]; omega) (by omega), cntF_eq f (p :: r) (b / p) k g (by omega) (by rw [List.length_cons]; omega), ← cnt_split g]
theorem cnt_c {row : List Nat} {b c : Nat} (g : Good row) (hb : b < 2 ^ 70) (hl : row.length ≤ 6) (h : cntF 80 row b = c) : cnt row b = c := by rw [← h]; exact (cntF_eq 80 row b 70 g hb (by omega)).symm
theorem mk_of_cnt {row : List Nat} {m : Nat} (h : cnt row m = cnt row (m - 1) + 1) : Mk row m := by
  cases m with
  | zero => simp at h
  | succ m =>
    by_cases c : Mk row (m + 1)
    · exact c
    · rw [cnt_no c] at h; simp at h
theorem next_of_cnt {row : List Nat} {n m : Nat} (hlt : n < m) (h1 : cnt row (m - 1) = cnt row n) (h2 : cnt row m = cnt row n + 1) : IsNext row n m := ⟨mk_of_cnt (by omega), hlt, fun k hk hnk => by
  rcases Nat.lt_or_ge k m with z | z
  · have h3 := cnt_lt hnk hk
    have h4 := cnt_mono (row := row) (a := k) (b := m - 1) (by omega)
    omega
  · exact z⟩
theorem last_of_cnt {row : List Nat} {n m : Nat} (hlt : m < n) (h1 : cnt row (n - 1) = cnt row m) (h2 : cnt row m = cnt row (m - 1) + 1) : IsLast row n m := ⟨mk_of_cnt h2, hlt, fun k hk hkn => by
  rcases Nat.lt_or_ge m k with z | z
  · have h3 := cnt_lt z hk
    have h4 := cnt_mono (row := row) (a := k) (b := n - 1) (by omega)
    omega
  · exact z⟩
theorem allL_c {row l : List Nat} {b : Nat} (g : Good row) (hl : row.length ≤ 6) (hb : b < 2 ^ 60) (h : l = (List.range (b + 1)).filter fun n => decide (n ≠ 0) && decide (cntF 80 row n ≠ cntF 80 row (n - 1))) : allL row b = l := by
  have e : IsAll row b l := by
    rw [h]
    refine ⟨pair_nodup (List.pairwise_lt_range.sublist List.filter_sublist), fun n => ?_⟩
    rw [List.mem_filter, List.mem_range, Bool.and_eq_true, decide_eq_true_eq, decide_eq_true_eq]
    constructor
    · rintro ⟨h1, h2, h3⟩
      rw [cntF_eq 80 row n 70 g (by omega) (by omega), cntF_eq 80 row (n - 1) 70 g (by omega) (by omega)] at h3
      refine ⟨?_, by omega⟩
      obtain ⟨m, rfl⟩ : ∃ m, n = m + 1 := ⟨n - 1, by omega⟩
      by_cases c : Mk row (m + 1)
      · exact c
      · rw [cnt_no c] at h3; simp at h3
    · rintro ⟨h1, h2⟩
      have h0 := mk_pos g.ge h1
      refine ⟨by omega, by omega, ?_⟩
      rw [cntF_eq 80 row n 70 g (by omega) (by omega), cntF_eq 80 row (n - 1) 70 g (by omega) (by omega)]
      obtain ⟨m, rfl⟩ : ∃ m, n = m + 1 := ⟨n - 1, by omega⟩
      rw [cnt_yes h1]; simp
  refine (e.eq ?_).symm
  rw [h]
  exact List.pairwise_lt_range.sublist List.filter_sublist
/-! ### the row without its last prime -/
theorem last_perm {row : List Nat} {p : Nat} (h : row.getLast? = some p) : row.Perm (p :: row.dropLast) := by
  obtain ⟨ys, rfl⟩ := List.getLast?_eq_some_iff.mp h
  rw [List.dropLast_concat]
  exact List.perm_append_comm
theorem last_ex_row {row : List Nat} (h : row ≠ []) : ∃ p, row.getLast? = some p ∧ p ∈ row := ⟨row.getLast h, List.getLast?_eq_some_getLast h, List.getLast_mem h⟩
theorem last_good {row : List Nat} {p : Nat} (g : Good row) (h : row.getLast? = some p) : Good (p :: row.dropLast) := g.perm (last_perm h).symm
end MA
set_option linter.all false
set_option maxHeartbeats 1000000
namespace MA
/-! ### one prime more, level by level -/
structure Lv (r L : List Nat) (p b : Nat) (F A : List Nat) (j : Nat) : Prop where
  nd : F.Nodup
  na : A.Nodup
  made : ∀ y ∈ F, Mk (p :: r) y ∧ y ≤ b
  hL : ∀ y ∈ L, y ∈ F
  aj : ∀ y ∈ A, y ∈ F ∧ ∃ m ∈ L, y = m * p ^ j
  cl : ∀ x ∈ F, x ∉ A → x * p ≤ b → x * p ∈ F
  low : ∀ y ∈ F, ∃ m ∈ L, ∃ i, i ≤ j ∧ y = m * p ^ i
theorem Lv.start {r L : List Nat} {p b : Nat} (h : IsAll r b L) : Lv r L p b L L 0 := ⟨h.1, h.1, fun y hy => ⟨mk_mono (fun _ z => List.mem_cons_of_mem _ z) ((h.2 y).mp hy).1, ((h.2 y).mp hy).2⟩, fun _ h => h, fun y hy => ⟨hy, y, hy, by simp⟩, fun x hx hn => absurd hx hn, fun y hy => ⟨y, hy, 0, Nat.le_refl _, by simp⟩⟩
def lvUp (p b : Nat) (A : List Nat) : List Nat := (A.filter fun x => decide (x * p ≤ b)).map (· * p)
theorem lvUp_mem {p b y : Nat} {A : List Nat} : y ∈ lvUp p b A ↔ ∃ x ∈ A, x * p ≤ b ∧ y = x * p := by
  unfold lvUp
  rw [List.mem_map]
  constructor
  · rintro ⟨x, hx, rfl⟩
    rw [List.mem_filter, decide_eq_true_eq] at hx
    exact ⟨x, hx.1, hx.2, rfl⟩
  · rintro ⟨x, h1, h2, rfl⟩
    exact ⟨x, by rw [List.mem_filter, decide_eq_true_eq]; exact ⟨h1, h2⟩, rfl⟩
theorem Lv.step {r L F A : List Nat} {p b j : Nat} (v : Lv r L p b F A j) (g : Good (p :: r)) (h0 : IsAll r b L) : Lv r L p b (F ++ lvUp p b A) (lvUp p b A) (j + 1) := by
  have hp := g.head
  have hLm : ∀ m ∈ L, ¬ p ∣ m := fun m hm => g.ndvd ((h0.2 m).mp hm).1
  have up : ∀ y ∈ lvUp p b A, ∃ m ∈ L, y = m * p ^ (j + 1) := fun y hy => by
    obtain ⟨x, hx, _, rfl⟩ := lvUp_mem.mp hy
    obtain ⟨_, m, hm, rfl⟩ := v.aj x hx
    exact ⟨m, hm, by rw [Nat.pow_succ, Nat.mul_assoc]⟩
  have hna : (lvUp p b A).Nodup := List.pairwise_map.mpr ((v.na.sublist List.filter_sublist).imp fun ne e => ne (Nat.eq_of_mul_eq_mul_right (by omega) e))
  refine ⟨?_, hna, fun y hy => ?_, fun y hy => List.mem_append_left _ (v.hL y hy), fun y hy => ⟨List.mem_append_right _ hy, up y hy⟩, fun x hx hn hb => ?_, fun y hy => ?_⟩
  · rw [List.nodup_append]
    refine ⟨v.nd, hna, fun a ha c hc e => ?_⟩
    subst e
    obtain ⟨m, hm, i, hi, e1⟩ := v.low a ha
    obtain ⟨m', hm', e2⟩ := up a hc
    have := (split_eq hp (hLm m hm) (hLm m' hm') (e1.symm.trans e2)).1
    omega
  · rcases List.mem_append.mp hy with z | z
    · exact v.made y z
    · obtain ⟨x, hx, hb, rfl⟩ := lvUp_mem.mp z
      exact ⟨by rw [Nat.mul_comm]; exact .mul List.mem_cons_self (v.made x (v.aj x hx).1).1, hb⟩
  · rcases List.mem_append.mp hx with z | z
    · by_cases ha : x ∈ A
      · exact List.mem_append_right _ (lvUp_mem.mpr ⟨x, ha, hb, rfl⟩)
      · exact List.mem_append_left _ (v.cl x z ha hb)
    · exact absurd z hn
  · rcases List.mem_append.mp hy with z | z
    · obtain ⟨m, hm, i, hi, e⟩ := v.low y z
      exact ⟨m, hm, i, by omega, e⟩
    · obtain ⟨m, hm, e⟩ := up y z
      exact ⟨m, hm, j + 1, Nat.le_refl _, e⟩
theorem Lv.len {r L F A : List Nat} {p b j : Nat} (v : Lv r L p b F A j) : F.length ≤ cnt (p :: r) b := cnt_le v.nd v.made
theorem Lv.fin {r L F : List Nat} {p b j : Nat} (v : Lv r L p b F [] j) (g : Good (p :: r)) (h0 : IsAll r b L) : IsAll (p :: r) b F := grow g h0 v.nd v.made v.hL fun x hx hb => v.cl x hx (by simp) hb
theorem Lv.lt {r L F A : List Nat} {p b j : Nat} (v : Lv r L p b F A j) (g : Good (p :: r)) (h0 : IsAll r b L) (hb : b < 2 ^ 70) (hA : A ≠ []) : j < 70 := by
  obtain ⟨y, t, rfl⟩ := List.exists_cons_of_ne_nil hA
  obtain ⟨h1, m, hm, e⟩ := v.aj y List.mem_cons_self
  have h2 := (v.made y h1).2
  have h3 := mk_pos g.tail.ge ((h0.2 m).mp hm).1
  have h4 : 1 * 2 ^ j ≤ m * p ^ j := Nat.mul_le_mul h3 (Nat.pow_le_pow_left g.head j)
  rcases Nat.lt_or_ge j 70 with z | z
  · exact z
  · have := Nat.pow_le_pow_right (show 0 < 2 by omega) z
    omega
theorem Lv.alen {r L F A : List Nat} {p b j : Nat} (v : Lv r L p b F A j) : A.length ≤ cnt (p :: r) b := Nat.le_trans (len_le v.na fun n hn => (v.aj n hn).1) v.len
/-! ### neighbours -/
open Classical in
noncomputable def nb (row : List Nat) (b : Nat) : List Nat := (allL row b).filter fun x => decide (Mk row (x + 1))
open Classical in
theorem nb_mem {row : List Nat} {b x : Nat} : x ∈ nb row b ↔ (Mk row x ∧ x ≤ b) ∧ Mk row (x + 1) := by
  unfold nb
  rw [List.mem_filter, allL_mem, decide_eq_true_eq]
theorem nb_pair (row : List Nat) (b : Nat) : (nb row b).Pairwise (· < ·) := (allL_pair row b).sublist List.filter_sublist
theorem nb_eq {row l : List Nat} {b : Nat} (hp : l.Pairwise (· < ·)) (h : ∀ x, x ∈ l ↔ (Mk row x ∧ x ≤ b) ∧ Mk row (x + 1)) : l = nb row b := eq_of_pair hp (nb_pair _ _) fun n => (h n).trans nb_mem.symm
theorem nb_len {row : List Nat} {b : Nat} : (nb row b).length ≤ cnt row b := List.length_filter_le _ _
/-- those whose follower in a rising list is one more -/
def adj : List Nat → List Nat
  | x :: y :: r => if y = x + 1 then x :: adj (y :: r) else adj (y :: r)
  | _ => []
theorem adj_sub : ∀ l : List Nat, (adj l).Sublist l
  | [] => .slnil
  | [x] => by rw [adj]; exact List.nil_sublist _; simp
  | x :: y :: r => by
    rw [adj]
    split
    · exact (adj_sub (y :: r)).cons₂ _
    · exact (adj_sub (y :: r)).cons _
theorem adj_mem : ∀ {l : List Nat}, l.Pairwise (· < ·) → ∀ {x : Nat}, x ∈ adj l ↔ x ∈ l ∧ x + 1 ∈ l
  | [], _, x => by simp [adj]
  | [a], _, x => by
    simp only [adj, List.not_mem_nil, List.mem_singleton, false_iff]
    omega
  | a :: b :: r, h, x => by
    have h1 := (List.pairwise_cons.mp h).1
    have h2 := (List.pairwise_cons.mp h).2
    have ih := adj_mem h2 (x := x)
    have hab := h1 b List.mem_cons_self
    have hr : ∀ z ∈ r, b < z := fun z hz => (List.pairwise_cons.mp h2).1 z hz
    rw [adj]
    have e1 : x + 1 ∈ a :: b :: r ↔ x + 1 = a ∨ x + 1 ∈ b :: r := List.mem_cons
    have e2 : x ∈ a :: b :: r ↔ x = a ∨ x ∈ b :: r := List.mem_cons
    have n1 : x ∈ b :: r → x + 1 ≠ a := fun hx e => by have := h1 x hx; omega
    by_cases hc : b = a + 1
    · rw [if_pos hc, List.mem_cons, ih, e1, e2]
      constructor
      · rintro (rfl | ⟨h3, h4⟩)
        · exact ⟨.inl rfl, .inr (by rw [← hc]; exact List.mem_cons_self)⟩
        · exact ⟨.inr h3, .inr h4⟩
      · rintro ⟨rfl | h3, h4⟩
        · exact .inl rfl
        · exact .inr ⟨h3, h4.resolve_left (n1 h3)⟩
    · rw [if_neg hc, ih, e1, e2]
      constructor
      · rintro ⟨h3, h4⟩; exact ⟨.inr h3, .inr h4⟩
      · rintro ⟨rfl | h3, h4⟩
        · rcases h4 with h4 | h4
          · omega
          · rcases List.mem_cons.mp h4 with h5 | h5
            · exact absurd h5.symm hc
            · have := hr _ h5; omega
        · exact ⟨h3, h4.resolve_left (n1 h3)⟩
theorem nb_adj {row : List Nat} {b : Nat} : ((adj (allL row (b + 1))).filter fun x => decide (x ≤ b)) = nb row b := by
  refine nb_eq (((allL_pair row (b + 1)).sublist (adj_sub _)).sublist List.filter_sublist) fun x => ?_
  rw [List.mem_filter, adj_mem (allL_pair _ _), allL_mem, allL_mem, decide_eq_true_eq]
  constructor
  · rintro ⟨⟨⟨h1, h2⟩, h3, h4⟩, h5⟩; exact ⟨⟨h1, h5⟩, h3⟩
  · rintro ⟨⟨h1, h2⟩, h3⟩; exact ⟨⟨⟨h1, by omega⟩, h3, by omega⟩, h2⟩
end MA
set_option Elab.async false
set_option linter.all false
set_option maxRecDepth 100000
set_option maxHeartbeats 4000000
namespace Px
open PySem L2 MA
local macro_rules | `(tactic| bv_omega) => `(tactic| first | assumption | omega | exact cm (by omega) | exact cd (by omega) | exact cp (by omega) | exact trivial)
local macro_rules | `(tactic| array_get_dec) => `(tactic| first
  | assumption
  | exact sq_up
  | exact Own.sqi (by assumption) 0 (by rfl)
  | exact Own.sqi (by assumption) 1 (by rfl)
  | exact Own.sqi (by assumption) 2 (by rfl)
  | exact Own.sqi (by assumption) 3 (by rfl)
  | exact Own.sqi (by assumption) 4 (by rfl)
  | exact Own.sq (by assumption) (by assumption)
  | exact sq_new (by assumption) (by assumption))
local macro_rules | `(tactic| clean_wf) => `(tactic| first
  | with_reducible exact ev_c
  | (with_reducible apply ev_v') <;> rfl
  | (with_reducible apply ev_add) <;> clean_wf
  | (with_reducible apply ev_sub) <;> clean_wf
  | (with_reducible apply ev_mul) <;> clean_wf
  | (with_reducible apply ev_mod) <;> clean_wf
  | (with_reducible apply ev_div) <;> clean_wf
  | (with_reducible apply ev_pow) <;> clean_wf
  | (with_reducible apply ev_neg) <;> clean_wf
  | (with_reducible apply ev_lt) <;> clean_wf
  | (with_reducible apply ev_le) <;> clean_wf
  | (with_reducible apply ev_gt) <;> clean_wf
  | (with_reducible apply ev_ge) <;> clean_wf
  | (with_reducible apply ev_eqi) <;> clean_wf
  | (with_reducible apply ev_nei) <;> clean_wf
  | (with_reducible apply ev_len) <;> clean_wf
  | (with_reducible apply ev_ixL) <;> clean_wf
  | (with_reducible apply ev_min) <;> clean_wf
  | (with_reducible apply ev_max) <;> clean_wf
  | (with_reducible apply ev_abs) <;> clean_wf
  | (with_reducible apply ev_intB) <;> clean_wf
  | (with_reducible apply ea_1) <;> clean_wf
  | (with_reducible apply ea_2) <;> clean_wf
  | (with_reducible apply ea_3) <;> clean_wf
  | with_reducible exact ea_nil
  | (with_reducible apply ea_cons) <;> clean_wf
  | with_reducible exact el_nil
  | (with_reducible apply ep_lt) <;> clean_wf
  | (with_reducible apply ep_le) <;> clean_wf
  | (with_reducible apply ep_gt) <;> clean_wf
  | (with_reducible apply ep_ge) <;> clean_wf
  | (with_reducible apply ep_eqi) <;> clean_wf
  | (with_reducible apply ep_nei) <;> clean_wf
  | (with_reducible apply ep_not) <;> clean_wf
  | ((with_reducible apply ep_and) <;> first | (intro _; clean_wf; done) | clean_wf)
  | ((with_reducible apply ep_or) <;> first | (intro _; clean_wf; done) | clean_wf)
  | (with_reducible apply et_t) <;> clean_wf
  | (with_reducible apply eo_is) <;> clean_wf
  | with_reducible exact eo_no
  | array_get_dec
  | bv_omega
  | rfl
  | skip)
local macro_rules | `(tactic| symm_saturate) => `(tactic| first
  | ((with_reducible apply q_set); (focus (clean_wf; done)))
  | ((with_reducible apply s_set); (focus (clean_wf; done)))
  | ((with_reducible apply q_aug (hx := rfl)); (focus (clean_wf; done)))
  | ((with_reducible apply s_aug (hx := rfl)); (focus (clean_wf; done)))
  | ((with_reducible apply q_augC (hx := rfl)); (focus (clean_wf; done)))
  | ((with_reducible apply s_augC (hx := rfl)); (focus (clean_wf; done))))
local macro_rules | `(tactic| subst_eqs) => `(tactic| repeat' (first
  | with_reducible apply w_c
  | ((with_reducible apply w_v'); (focus rfl))
  | with_reducible apply w_op
  | with_reducible apply w_cb
  | with_reducible apply w_cons
  | with_reducible apply w_nil
  | with_reducible apply r_add
  | with_reducible apply r_sub
  | ((with_reducible apply r_mul); (focus (bv_omega; done)))
  | ((with_reducible apply r_div); (focus (bv_omega; done)))
  | ((with_reducible apply r_mod); (focus (bv_omega; done)))
  | ((with_reducible apply r_pow); (focus (bv_omega; done)))
  | with_reducible apply r_lt
  | with_reducible apply r_le
  | with_reducible apply r_gt
  | with_reducible apply r_ge
  | with_reducible apply r_min
  | with_reducible apply r_max
  | with_reducible apply r_intB
  | ((with_reducible apply r_len); (focus (array_get_dec; done)))
  | with_reducible apply w_callW
  | with_reducible apply q_setW
  | with_reducible apply s_setW
  | with_reducible apply s_retW))

/-- slots: cell k digits -/
abbrev n_law_hand : List Str := ["cell", "k", "digits"]
def t_law_hand (K : PySem.W.Frag) : TS := (sFg (tSeq (tAsg (tC (.int 0)) (gName 2))
  (tSeq (tIfS (tTest (tOp oGe (tVar 0) (tOp oPow (tC (.int 10)) (tC (.int 18))))) (tAsg (tVar 0) (gName 2)) tNext)
  (tRet (tLst (tCons (tVar 2) (tCons (tOp oMod (tOp oMul (tOp oAdd (tOp oAdd (tOp oMod (tVar 0) (tC (.int 2147483563))) (tOp oMul (tC (.int 6271)) (tVar 1))) (tC (.int 3))) (tC (.int 40014))) (tC (.int 2147483563))) tNil)))))))
theorem r_law_hand {K : PySem.W.Frag} {vs : List V} {H : Hp} {Q : VK} {E : XK} (h : sp_law_hand K vs H Q E) : t_law_hand K { nx := fun _ H' => Q .non H', rt := Q } (start n_law_hand vs) H := by
  obtain ⟨nd, c, k, rfl, k0, k1, q⟩ := h
  have key : ∀ D : Int, 0 ≤ D → tRet (tLst (tCons (tVar 2) (tCons (tOp oMod (tOp oMul (tOp oAdd (tOp oAdd (tOp oMod (tVar 0) (tC (.int 2147483563))) (tOp oMul (tC (.int 6271)) (tVar 1))) (tC (.int 3))) (tC (.int 40014))) (tC (.int 2147483563))) tNil))) { nx := fun σ' H' => ∃ H'', Fg H H' H'' ∧ Q .non H'', rt := fun v H' => ∃ H'', Fg H H' H'' ∧ Q v H'', bk := fun σ' H' => ∃ H'', Fg H H' H'' ∧ False, ct := fun σ' H' => ∃ H'', Fg H H' H'' ∧ False } [some (.int c), some (.int k), some (.int D)] H := fun D hD => by
    refine s_retL (el_lst (by clean_wf) (by simp)) fun p hp => ⟨_, fg_newL hp (ex_new hp) upd_same, q p _ _ hp ⟨hD, ?_, ?_⟩⟩
    · exact Int.emod_nonneg _ (by decide)
    · exact Int.lt_trans (Int.emod_lt_of_pos _ (by decide)) (by decide)
  refine fg_body (q_set ev_c (q_whenP (by clean_wf) (fun hc => s_set (ev_v 0) (key c ?_)) fun _ => key 0 (by omega)))
  have : (10 : Int) ^ (18 : Int).toNat ≤ c := hc
  exact Int.le_trans (by decide) this
/-- slots: hand limit got -/
abbrev n_law_draw : List Str := ["hand", "limit", "got"]
def t_law_draw (K : PySem.W.Frag) : TS := (sFg (tSeq (tIfS (tTest (tOp oGt (tOp (rIxL K) (tVar 0) (tC (.int 0))) (tC (.int 0)))) (tSeq (tAsg (tOp oMod (tOp (rIxL K) (tVar 0) (tC (.int 0))) (tVar 1)) (gName 2))
  (tSeq (tAsg (tOp oDiv (tOp (rIxL K) (tVar 0) (tC (.int 0))) (tVar 1)) (gSub (tVar 0) (tC (.int 0)) rSetL))
  (tRet (tVar 2)))) tNext)
  (tSeq (tAsg (tOp oMod (tOp oAdd (tOp oAdd (tOp oMul (tOp (rIxL K) (tVar 0) (tC (.int 1))) (tOp (rIxL K) (tVar 0) (tC (.int 1)))) (tOp oMul (tC (.int 52774)) (tOp (rIxL K) (tVar 0) (tC (.int 1))))) (tC (.int 40692))) (tC (.int 2147483563))) (gSub (tVar 0) (tC (.int 1)) rSetL))
  (tRet (tOp oMod (tOp oDiv (tOp (rIxL K) (tVar 0) (tC (.int 1))) (tC (.int 16))) (tVar 1))))))
theorem r_law_draw {K : PySem.W.Frag} {vs : List V} {H : Hp} {Q : VK} {E : XK} (h : sp_law_draw K vs H Q E) : t_law_draw K { nx := fun _ H' => Q .non H', rt := Q } (start n_law_draw vs) H := by
  obtain ⟨nd, a, d, s, m, rfl, ha, ⟨d0, s0, s1⟩, m0, m1, q⟩ := h
  have sa : SqL K H a (hd d s) := sq_at ha
  have e0 : atI (hd d s) 0 = some (.int d) := rfl
  have e1 : atI (hd d s) 1 = some (.int s) := rfl
  refine fg_body (q_whenP (by clean_wf) (fun hc => ?_) fun hc => ?_)
  · refine q_set (by clean_wf) (q_sub (j := 0) ha (ixn0 (by simp)) (by clean_wf) (ev_v 0) ev_c (s_ret (ev_v 2) ⟨_, fg_mutL ha (fun b u hb hu => by rw [upd_ne hb]; exact hu) upd_same, q _ _ _ (Int.emod_nonneg _ (by omega)) (Int.emod_lt_of_pos _ m0) ⟨?_, s0, s1⟩⟩))
    exact Int.ediv_nonneg d0 (by omega)
  · refine q_sub (j := 1) ha (ixn1 (by simp)) (by clean_wf) (ev_v 0) ev_c ?_
    generalize hs : (s * s + 52774 * s + 40692) % 2147483563 = s'
    have hs0 : 0 ≤ s' ∧ s' < 2147483563 := by
      rw [← hs]
      exact ⟨Int.emod_nonneg _ (by decide), Int.emod_lt_of_pos _ (by decide)⟩
    have e2 : atI (hd d s') 1 = some (.int s') := rfl
    have e3 : SqL K (upd H a (.lst ((hd d s).set 1 (.int s')))) a (hd d s') := sq_at upd_same
    exact s_ret (by clean_wf) ⟨_, fg_mutL ha (fun b u hb hu => by rw [upd_ne hb]; exact hu) upd_same, q _ _ _ (Int.emod_nonneg _ (by omega)) (Int.emod_lt_of_pos _ m0) ⟨d0, hs0.1, by omega⟩⟩
/-! ### the row -/
def sp_law_row (K : PySem.W.Frag) : Sp := fun vs H Q _ => Nod H ∧ ∃ (a : Addr) (d s : Int), vs = [.ref a] ∧ H a = some (.lst (hd d s)) ∧ HdOk d s ∧
  ∀ (p : Addr) (row : List Nat) (d' s' : Int), H p = none → Rw row → row ≠ [] → HdOk d' s' → Q (.ref p) (upd (upd H a (.lst (hd d' s'))) p (.lst (zv row)))
/-- slots: hand primes many way at left found k -/
abbrev n_law_row : List Str := ["hand", "primes", "many", "way", "at", "left", "found", "k"]
def t_law_row (K : PySem.W.Frag) : TS := (sFg (tSeq (tAsg (tLst (tCons (tC (.int 2)) (tCons (tC (.int 3)) (tCons (tC (.int 5)) (tCons (tC (.int 7)) (tCons (tC (.int 11)) (tCons (tC (.int 13)) (tCons (tC (.int 17)) (tCons (tC (.int 19)) (tCons (tC (.int 23)) (tCons (tC (.int 29)) (tCons (tC (.int 31)) (tCons (tC (.int 37)) (tCons (tC (.int 41)) (tCons (tC (.int 43)) (tCons (tC (.int 47)) (tCons (tC (.int 53)) (tCons (tC (.int 59)) (tCons (tC (.int 61)) (tCons (tC (.int 67)) (tCons (tC (.int 71)) (tCons (tC (.int 73)) (tCons (tC (.int 79)) (tCons (tC (.int 83)) (tCons (tC (.int 89)) (tCons (tC (.int 97)) tNil)))))))))))))))))))))))))) (gName 1))
  (tSeq (tAsg (tOp oAdd (tC (.int 1)) (tCall (sp_law_draw K) [] E0 (tCons (tVar 0) (tCons (tC (.int 6)) tNil)))) (gName 2))
  (tSeq (tAsg (tCall (sp_law_draw K) [] E0 (tCons (tVar 0) (tCons (tC (.int 4)) tNil))) (gName 3))
  (tSeq (tIfS (tTest (tOp rEq (tVar 3) (tC (.int 0)))) (tRet (tSl (rSlL K) (tVar 1) tNoPart (tPart (tVar 2)))) tNext)
  (tSeq (tIfS (tTest (tOp rEq (tVar 3) (tC (.int 1)))) (tSeq (tAsg (tCall (sp_law_draw K) [] E0 (tCons (tVar 0) (tCons (tOp oSub (tC (.int 26)) (tVar 2)) tNil))) (gName 4))
  (tRet (tSl (rSlL K) (tVar 1) (tPart (tVar 4)) (tPart (tOp oAdd (tVar 4) (tVar 2)))))) tNext)
  (tSeq (tAsg (tSl (rSlL K) (tVar 1) (tPart (tOp (rIxL K) (tLst (tCons (tC (.int 0)) (tCons (tC (.int 0)) (tCons (tC (.int 0)) (tCons (tC (.int 1)) tNil))))) (tVar 3))) tNoPart) (gName 5))
  (tSeq (tAsg (tLc (iRng1 (tCons (tVar 2) tNil)) (gName 7) tYes (tBM K "list" rPopAt (tVar 5) (tCons (tCall (sp_law_draw K) [] E0 (tCons (tVar 0) (tCons (tCB (cLen K) (tCons (tVar 5) tNil)) tNil))) tNil)) [7]) (gName 6))
  (tRet (tSl (rSlL K) (tCB (rSortedI K) (tCons (tOp rCat (tVar 6) (tOp rRep (tLst (tCons (tC (.int 2)) tNil)) (tCB cInt (tCons (tAndV (tOp rEq (tVar 3) (tC (.int 2))) (tOp (rIn K true) (tC (.int 2)) (tVar 6))) tNil)))) tNil)) tNoPart (tPart (tC (.int 6)))))))))))))
theorem cut_both (l : List Nat) (i j : Nat) (h : i ≤ j) (hj : j ≤ l.length) : cutV (zv l) (some (i : Int)) (some (j : Int)) = zv ((l.drop i).take (j - i)) := by
  rw [cutV_int, HT.sIx_nat, HT.sIx_nat, zl_len, show min i l.length = i by omega, show min j l.length = j by omega]
  simp
theorem rw_of {l : List Nat} (hm : ∀ x ∈ l, x ∈ PR) (hp : l.Pairwise (· ≤ ·)) (hn : l.Nodup) (h6 : l.length ≤ 6) : Rw l := ⟨hm, (hp.and hn).imp fun {x y} z => by have := z.1; have := z.2; omega, h6⟩
theorem r_law_row {K : PySem.W.Frag} {vs : List V} {H : Hp} {Q : VK} {E : XK} (h : sp_law_row K vs H Q E) : t_law_row K { nx := fun _ H' => Q .non H', rt := Q } (start n_law_row vs) H := by
  obtain ⟨nd, a, d, s, rfl, ha, ok, q⟩ := h
  have o : Own (del H a) [(a, hd d s)] H := .enter ha
  have hPR : PR.length = 25 := rfl
  refine fg_body (q_setL (xs := zv PR) (el_lst (by repeat (first | exact ea_nil | refine ea_cons ev_c ?_)) (by decide)) fun p0 hp0 => ?_)
  replace o := o.new (xs := zv PR) hp0
  subst_eqs
  refine o.draw 1 rfl ok (by omega) fun sz d s H1 o1 ok o => ?_
  subst_eqs
  refine o.draw 1 rfl ok (by omega) fun way d s H2 hw ok o => ?_
  obtain ⟨n, en, n1, n2⟩ : ∃ n : Nat, 1 + sz = (n : Int) ∧ 1 ≤ n ∧ n ≤ 6 := ⟨(1 + sz).toNat, by omega, by omega, by omega⟩
  rw [en]
  have fin : ∀ (p : Addr) (row : List Nat) (H3 : Hp) (d s : Int) (i j : Nat) (L : List (Addr × List V)), Own (del H a) L H3 → L[i]? = some (a, hd d s) → L[j]? = some (p, zv row) → i ≠ j → Rw row → row ≠ [] → HdOk d s → ∃ H'', Fg H H3 H'' ∧ Q (.ref p) H'' := fun p row H3 d s i j L o hi hj hij w hne ok => by
    have hpa : p ≠ a := o.ne j i hj hi (Ne.symm hij)
    exact ⟨_, o.exitN ha i j hi hj hpa, q p row d s (by have := o.offI j hj; rw [del_ne hpa] at this; exact this) w hne ok⟩
  refine q_whenP (by clean_wf) (fun hk => ?_) fun hk => ?_
  · refine s_retL (el_sl (ev_v 1) eo_no (eo_is (ev_v 2)) (o.sqi 0 rfl)) fun p hp => ?_
    rw [cut_toN]
    replace o := o.new (xs := zv (PR.take n)) hp
    have hl : (PR.take n).length = n := by rw [List.length_take]; omega
    exact fin p _ _ _ _ 2 0 _ o rfl rfl (by decide) ⟨fun p h => List.mem_of_mem_take h, pr_up.sublist (List.take_sublist _ _), by omega⟩ (fun z => by rw [z] at hl; simp at hl; omega) ok
  refine q_whenP (by clean_wf) (fun hk1 => ?_) fun hk1 => ?_
  · subst_eqs
    refine o.draw 1 rfl ok (by omega) fun at_ d s H3 hat ok o => ?_
    obtain ⟨i, rfl⟩ : ∃ i : Nat, at_ = (i : Int) := ⟨at_.toNat, by omega⟩
    refine s_retL (el_sl (ev_v 1) (eo_is (ev_v 4)) (eo_is (ev_eq (y := .int ((i + n : Nat) : Int)) (ev_add (i := (i : Int)) (j := (n : Int)) (ev_v 4) (ev_v 2)) rfl)) (o.sqi 0 rfl)) fun p hp => ?_
    rw [cut_both PR i (i + n) (by omega) (by omega)]
    replace o := o.new (xs := zv ((PR.drop i).take (i + n - i))) hp
    have hl : ((PR.drop i).take (i + n - i)).length = n := by rw [List.length_take, List.length_drop]; omega
    exact fin p _ _ _ _ 2 0 _ o rfl rfl (by decide) ⟨fun p h => List.mem_of_mem_drop (List.mem_of_mem_take h), pr_up.sublist ((List.take_sublist _ _).trans (List.drop_sublist _ _)), by omega⟩ (fun z => by rw [z] at hl; simp at hl; omega) ok
  · refine q_setW ?_
    refine (ev_v 1) _ ?_
    have hat : ∃ c : Nat, atI [V.int 0, .int 0, .int 0, .int 1] way = some (.int (c : Int)) ∧ c ≤ 1 := by
      rcases (by omega : way = 2 ∨ way = 3) with rfl | rfl
      · exact ⟨0, rfl, by omega⟩
      · exact ⟨1, rfl, by omega⟩
    obtain ⟨c, hat, hc⟩ := hat
    show tOp (rIxL K) _ _ _ H2 _
    refine w_op (w_evL (el_lst (by clean_wf) (by simp)) fun pc hpc => w_v 3 (r_ix sq_up hat ?_))
    replace o := o.tmp (xs := [.int 0, .int 0, .int 0, .int 1]) hpc
    refine ⟨_, rfl, eo_no _ ⟨p0, zv PR, rfl, o.sqi 0 rfl, fun ps hps => ?_⟩⟩
    rw [cut_fromN]
    replace o := o.new (xs := zv (PR.drop c)) hps
    have hcl : 24 ≤ (PR.drop c).length ∧ (PR.drop c).length ≤ 25 := by rw [List.length_drop]; omega
    have hnd : (PR.drop c).Nodup := (pair_nodup pr_up).sublist (List.drop_sublist _ _)
    refine q_setW (w_lcR (ea_1 (ev_v 2)) (by omega) (fun D i H' => ∃ (acc some : List Nat) (d s : Int), Own (del H a) [(D, zv acc), (ps, zv some), (p0, zv PR), (a, hd d s)] H' ∧ HdOk d s ∧ acc.length = i ∧ (acc ++ some).Perm (PR.drop c)) (fun D hD => ⟨[], _, d, s, o.new hD, ok, rfl, .refl _⟩) (fun _ => rfl) (fun D i H' hD hi hv => ?_) (fun D H' hD hv => ?_))
    · obtain ⟨acc, some, d, s, o, ok, hlen, hperm⟩ := hv
      have hsl := hperm.length_eq
      rw [List.length_append] at hsl
      refine w_popR (ev_v 5) (o.sqi 1 rfl) ?_
      subst_eqs
      refine o.draw 3 rfl ok (by rw [zv_len]; omega) fun r d s H3 hr ok o => ?_
      rw [zv_len] at hr
      obtain ⟨k, rfl⟩ : ∃ k : Nat, r = (k : Int) := ⟨r.toNat, by omega⟩
      have hk : k < some.length := by omega
      refine w_nil (r_popN (o.atI 1 rfl) hk (by omega) ?_)
      have o' := o.mut (ys := zv (some.eraseIdx k)) 1 rfl
      refine ⟨zv acc, o'.atI 0 rfl, ?_, acc ++ [some[k]], some.eraseIdx k, d, s, ?_, ok, by simp [hlen], ?_⟩
      · rw [zv_len]; exact szl (by omega)
      · have := o'.mut (ys := zv (acc ++ [some[k]])) 0 rfl
        rw [zv_app] at this ⊢
        exact this
      · rw [List.append_assoc]
        exact .trans ((erase_perm hk).symm.append_left acc) hperm
    · obtain ⟨acc, some, d, s, o, ok, hlen, hperm⟩ := hv
      have hal : acc.length = n := by rw [hlen]; simp
      have hacc : acc.Nodup := (hperm.nodup_iff.mpr hnd).sublist (List.sublist_append_left _ _)
      have hmem : ∀ x ∈ acc, x ∈ PR := fun x hx => List.mem_of_mem_drop (hperm.mem_iff.mp (List.mem_append_left _ hx))
      refine s_retW ?_
      show tCB (rSortedI K) _ _ _ _
      refine w_cb (w_one (w_op (w_v 6 (w_op (w_evL (el_lst (ea_1 ev_c) (by simp)) fun p2 hp2 => ?_)))))
      replace o := o.new (xs := zv [2]) hp2
      refine w_cb (w_one (ev_and (b := !decide (2 ∈ acc)) (ev_eqi (ev_v 3) ev_c) (fun _ => fun Q q => w_op (w_c (w_v 6 ⟨D, zv acc, rfl, .inl (o.sqi 1 rfl), rfl, zv_flat _, by
        have e : inV (V.int 2) (zv acc) = decide (2 ∈ acc) := inV_iff (p := 2)
        rw [e]; exact q⟩))) _ (r_intB ?_)))
      generalize hb2 : (decide (way = 2) && !decide (2 ∈ acc)) = b2
      refine w_rep1 (k := 1) (x := .int ((2 : Nat) : Int)) (o.atI 0 rfl) fun p3 hp3 => ?_
      have ez : (if b2 then [V.int ((2 : Nat) : Int)] else []) = zv (if b2 then [2] else []) := by cases b2 <;> rfl
      rw [ez]
      replace o := o.new (xs := zv (if b2 then [2] else [])) hp3
      have hl1 : (if b2 then [2] else [] : List Nat).length ≤ 1 := by cases b2 <;> simp
      refine ⟨D, p3, _, _, rfl, rfl, o.atI 2 rfl, o.atI 0 rfl, ?_, fun p4 hp4 => ?_⟩
      · rw [zv_len, zv_len]; exact Nat.le_trans (by omega : _ ≤ 1000) (by decide)
      rw [← zv_app]
      replace o := o.new (xs := zv (acc ++ if b2 then [2] else [])) hp4
      refine r_sortN (o.sqi 0 rfl) fun l p5 hl hle hp5 => ?_
      replace o := o.new (xs := zv l) hp5
      refine eo_no _ (eo_is ev_c _ ⟨p5, zv l, rfl, o.sqi 0 rfl, fun p6 hp6 => ?_⟩)
      rw [show (6 : Int) = ((6 : Nat) : Int) from rfl, cut_toN]
      replace o := o.new (xs := zv (l.take 6)) hp6
      have hnd2 : (acc ++ if b2 then [2] else [] : List Nat).Nodup := by
        cases b2 with
        | false => simpa using hacc
        | true =>
          have : ¬ 2 ∈ acc := by
            rw [Bool.and_eq_true] at hb2
            simpa using hb2.2
          simp [List.nodup_append, hacc]
          exact fun x hx e => this (e ▸ hx)
      have hm2 : ∀ x ∈ (acc ++ if b2 then [2] else [] : List Nat), x ∈ PR := fun x hx => by
        rcases List.mem_append.mp hx with z | z
        · exact hmem x z
        · cases b2 with
          | false => simp at z
          | true => rw [List.mem_singleton.mp z]; decide
      have hll : n ≤ l.length := by rw [hl.length_eq, List.length_append]; omega
      have w : Rw (l.take 6) := rw_of (fun x hx => hm2 x (hl.mem_iff.mp (List.mem_of_mem_take hx))) (hle.sublist (List.take_sublist _ _)) ((hl.nodup_iff.mpr hnd2).sublist (List.take_sublist _ _)) (by rw [List.length_take]; omega)
      exact fin p6 _ _ _ _ 8 0 _ o rfl rfl (by decide) w (fun z => by have := congrArg List.length z; rw [List.length_take, List.length_nil] at this; omega) ok
/-! ### the most -/
def sp_law_most (K : PySem.W.Frag) : Sp := fun vs H Q _ => Nod H ∧ ∃ (a : Addr) (row : List Nat), vs = [.ref a] ∧ SqL K H a (zv row) ∧ Q (.int (topN row : Int)) H
/-- slots: row -/
abbrev n_law_most : List Str := ["row"]
def t_law_most (K : PySem.W.Frag) : TS := (sFg (tRet (tFg (tOp (rIxL K) (tLst (tCons (tOp oPow (tC (.int 10)) (tC (.int 9))) (tCons (tOp oPow (tC (.int 10)) (tC (.int 18))) tNil))) (tCB cInt (tCons (tOp oLt (tCB (cLen K) (tCons (tVar 0) tNil)) (tC (.int 5))) tNil))))))
theorem r_law_most {K : PySem.W.Frag} {vs : List V} {H : Hp} {Q : VK} {E : XK} (h : sp_law_most K vs H Q E) : t_law_most K { nx := fun _ H' => Q .non H', rt := Q } (start n_law_most vs) H := by
  obtain ⟨nd, a, row, rfl, ha, q⟩ := h
  refine fg_body (s_ret (ev_pick (v := .int (topN row : Int)) (el_lst (by clean_wf) (by simp)) (fun p hp => by clean_wf) ?_) ⟨H, fg_same ex_refl, q⟩)
  rw [zv_len]
  by_cases h : 4 < row.length
  · rw [decide_eq_false (by omega : ¬ (row.length : Int) < 5), show topN row = 10 ^ 9 from if_pos h]; rfl
  · rw [decide_eq_true (by omega : (row.length : Int) < 5), show topN row = 10 ^ 18 from if_neg h]; rfl
end Px
set_option Elab.async false
set_option linter.all false
set_option maxRecDepth 100000
set_option maxHeartbeats 4000000
namespace Px
open PySem L2 MA
local macro_rules | `(tactic| bv_omega) => `(tactic| first | assumption | omega | exact cm (by omega) | exact cd (by omega) | exact cp (by omega) | exact trivial)
local macro_rules | `(tactic| array_get_dec) => `(tactic| first
  | assumption
  | exact sq_up
  | exact Own.sqi (by assumption) 0 (by rfl)
  | exact Own.sqi (by assumption) 1 (by rfl)
  | exact Own.sqi (by assumption) 2 (by rfl)
  | exact Own.sqi (by assumption) 3 (by rfl)
  | exact Own.sqi (by assumption) 4 (by rfl)
  | exact Own.sq (by assumption) (by assumption)
  | exact sq_new (by assumption) (by assumption))
local macro_rules | `(tactic| clean_wf) => `(tactic| first
  | with_reducible exact ev_c
  | (with_reducible apply ev_v') <;> rfl
  | (with_reducible apply ev_add) <;> clean_wf
  | (with_reducible apply ev_sub) <;> clean_wf
  | (with_reducible apply ev_mul) <;> clean_wf
  | (with_reducible apply ev_mod) <;> clean_wf
  | (with_reducible apply ev_div) <;> clean_wf
  | (with_reducible apply ev_pow) <;> clean_wf
  | (with_reducible apply ev_neg) <;> clean_wf
  | (with_reducible apply ev_lt) <;> clean_wf
  | (with_reducible apply ev_le) <;> clean_wf
  | (with_reducible apply ev_gt) <;> clean_wf
  | (with_reducible apply ev_ge) <;> clean_wf
  | (with_reducible apply ev_eqi) <;> clean_wf
  | (with_reducible apply ev_nei) <;> clean_wf
  | (with_reducible apply ev_len) <;> clean_wf
  | (with_reducible apply ev_ixL) <;> clean_wf
  | (with_reducible apply ev_min) <;> clean_wf
  | (with_reducible apply ev_max) <;> clean_wf
  | (with_reducible apply ev_abs) <;> clean_wf
  | (with_reducible apply ev_intB) <;> clean_wf
  | (with_reducible apply ea_1) <;> clean_wf
  | (with_reducible apply ea_2) <;> clean_wf
  | (with_reducible apply ea_3) <;> clean_wf
  | with_reducible exact ea_nil
  | (with_reducible apply ea_cons) <;> clean_wf
  | with_reducible exact el_nil
  | (with_reducible apply ep_lt) <;> clean_wf
  | (with_reducible apply ep_le) <;> clean_wf
  | (with_reducible apply ep_gt) <;> clean_wf
  | (with_reducible apply ep_ge) <;> clean_wf
  | (with_reducible apply ep_eqi) <;> clean_wf
  | (with_reducible apply ep_nei) <;> clean_wf
  | (with_reducible apply ep_not) <;> clean_wf
  | ((with_reducible apply ep_and) <;> first | (intro _; clean_wf; done) | clean_wf)
  | ((with_reducible apply ep_or) <;> first | (intro _; clean_wf; done) | clean_wf)
  | (with_reducible apply et_t) <;> clean_wf
  | (with_reducible apply eo_is) <;> clean_wf
  | with_reducible exact eo_no
  | array_get_dec
  | bv_omega
  | rfl
  | skip)
local macro_rules | `(tactic| symm_saturate) => `(tactic| first
  | ((with_reducible apply q_set); (focus (clean_wf; done)))
  | ((with_reducible apply s_set); (focus (clean_wf; done)))
  | ((with_reducible apply q_aug (hx := rfl)); (focus (clean_wf; done)))
  | ((with_reducible apply s_aug (hx := rfl)); (focus (clean_wf; done)))
  | ((with_reducible apply q_augC (hx := rfl)); (focus (clean_wf; done)))
  | ((with_reducible apply s_augC (hx := rfl)); (focus (clean_wf; done))))
local macro_rules | `(tactic| subst_eqs) => `(tactic| repeat' (first
  | with_reducible apply w_c
  | ((with_reducible apply w_v'); (focus rfl))
  | with_reducible apply w_op
  | with_reducible apply w_cb
  | with_reducible apply w_cons
  | with_reducible apply w_nil
  | with_reducible apply r_add
  | with_reducible apply r_sub
  | ((with_reducible apply r_mul); (focus (bv_omega; done)))
  | ((with_reducible apply r_div); (focus (bv_omega; done)))
  | ((with_reducible apply r_mod); (focus (bv_omega; done)))
  | ((with_reducible apply r_pow); (focus (bv_omega; done)))
  | with_reducible apply r_lt
  | with_reducible apply r_le
  | with_reducible apply r_gt
  | with_reducible apply r_ge
  | with_reducible apply r_min
  | with_reducible apply r_max
  | with_reducible apply r_intB
  | ((with_reducible apply r_len); (focus (array_get_dec; done)))
  | with_reducible apply w_callW
  | with_reducible apply q_setW
  | with_reducible apply s_setW
  | with_reducible apply s_retW))

open Classical in
def sp_law_is (K : PySem.W.Frag) : Sp := fun vs H Q _ => Nod H ∧ ∃ (a : Addr) (row : List Nat) (n : Nat), vs = [.ref a, .int (n : Int)] ∧ SqL K H a (zv row) ∧ Rw row ∧ 0 < n ∧ Q (.bl (decide (Mk row n))) H
/-- slots: row number left prime -/
abbrev n_law_is : List Str := ["row", "number", "left", "prime"]
def t_law_is (K : PySem.W.Frag) : TS := (sFg (tSeq (tAsg (tVar 1) (gName 2))
  (tSeq (tFor (iList K (tVar 0)) (gName 3) (tWhile (tTest (tOp rEq (tOp oMod (tVar 2) (tVar 3)) (tC (.int 0)))) (tAsg (tOp oDiv (tVar 2) (tVar 3)) (gName 2))))
  (tRet (tOp rEq (tVar 2) (tC (.int 1)))))))
open Classical in
theorem r_law_is {K : PySem.W.Frag} {vs : List V} {H : Hp} {Q : VK} {E : XK} (h : sp_law_is K vs H Q E) : t_law_is K { nx := fun _ H' => Q .non H', rt := Q } (start n_law_is vs) H := by
  obtain ⟨nd, a, row, n, rfl, ha, w, hn, q⟩ := h
  refine fg_body (q_set (ev_v 1) (q_forI (ev_v 0) ha (fun i σ' H' => ∃ (k : Nat) (y : Option V), σ' = [some (.ref a), some (.int n), some (.int k), y] ∧ H' = H ∧ 0 < k ∧ stripAll (row.drop i) k = stripAll row n) ⟨n, none, rfl, rfl, hn, rfl⟩ (fun i σ' H' _ hv => ?_) (fun i x σ' H' hx hv => ?_) (fun σ' H' hv => ?_)))
  · obtain ⟨k, y, _, rfl, _⟩ := hv
    exact ha
  · obtain ⟨k, y, rfl, rfl, hk, he⟩ := hv
    rw [List.getElem?_map] at hx
    cases e : row[i]? with
    | none => rw [e] at hx; cases hx
    | some p =>
      rw [e] at hx
      cases hx
      have hlt := (List.getElem?_eq_some_iff.mp e).1
      have hp := w.ge (List.mem_of_getElem? e)
      have hdr : row.drop i = p :: row.drop (i + 1) := by
        rw [List.drop_eq_getElem_cons hlt]
        congr 1
        exact (List.getElem?_eq_some_iff.mp e).2
      rw [hdr] at he
      refine s_whileP (fun m σ' H'' => ∃ j : Nat, σ' = [some (.ref a), some (.int n), some (.int j), some (.int p)] ∧ H'' = H' ∧ j = m ∧ 0 < j ∧ strip p j = strip p k) k ⟨k, rfl, rfl, rfl, hk, rfl⟩ (fun m σ' H'' hw => ?_)
      obtain ⟨j, rfl, rfl, rfl, hj, hs⟩ := hw
      refine ⟨_, ep_eqi (ev_mod (ev_v 2) (ev_v 3) (by omega)) ev_c, fun hb => ?_, fun hb => ?_⟩
      · have hm : j % p = 0 := by omega
        have hdl : j / p < j := Nat.div_lt_self hj (by omega)
        refine s_set (ev_div (i := (j : Int)) (j := (p : Int)) (ev_v 2) (ev_v 3) (cd (by omega))) ⟨j / p, hdl, j / p, by simp, rfl, rfl, ?_, ?_⟩
        · exact Nat.div_pos (Nat.le_of_dvd hj (Nat.dvd_of_mod_eq_zero hm)) (by omega)
        · rw [← hs, strip_yes (by omega) hj hm]
      · have hm : j % p ≠ 0 := by omega
        rw [strip_no hm] at hs
        refine ⟨j, some (.int p), rfl, rfl, hj, ?_⟩
        rw [hs]
        exact he
  · obtain ⟨k, y, rfl, rfl, hk, he⟩ := hv
    rw [zl_len, List.drop_length] at he
    have he : k = stripAll row n := he
    refine s_ret (ev_eq (ev_eqi (ev_v 2) ev_c) ?_) ⟨_, fg_same ex_refl, q⟩
    have e := stripAll_iff w.good hn
    congr 1
    by_cases hm : Mk row n
    · rw [he, e.mpr hm]; simp [hm]
    · have : ¬ stripAll row n = 1 := fun z => hm (e.mp z)
      have h1 : ¬ (k : Int) = 1 := by omega
      simp [hm, h1]

/-! ### all of them, level by level -/
theorem lv_filter (A : List Nat) (p b : Nat) : (((zl A).filter fun i => decide (i * (p : Int) ≤ (b : Int))).map fun i => i * (p : Int)) = zl (lvUp p b A) := by
  unfold lvUp
  induction A with
  | nil => rfl
  | cons a l ih =>
    simp only [zl, List.map_cons, List.filter_cons] at ih ⊢
    have e : decide ((a : Int) * (p : Int) ≤ (b : Int)) = decide (a * p ≤ b) := decide_eq_decide.mpr (by
      have : (a : Int) * (p : Int) = ((a * p : Nat) : Int) := by simp
      omega)
    rw [e]
    by_cases h : a * p ≤ b
    · simp only [h, decide_true, if_true, List.map_cons, ih]
      simp
    · simp only [h, decide_false, Bool.false_eq_true, if_false, ih]
theorem cnt_of_lv {r L F A : List Nat} {p b j : Nat} (v : Lv r L p b F A j) (hc : cnt (p :: r) b ≤ 9000000) : F.length ≤ 9000000 ∧ A.length ≤ 9000000 := ⟨Nat.le_trans v.len hc, Nat.le_trans v.alen hc⟩
def sp_law_made (K : PySem.W.Frag) : Sp := fun vs H Q _ => Nod H ∧ ∃ (a : Addr) (row : List Nat) (b : Nat), vs = [.ref a, .int (b : Int)] ∧ SqL K H a (zv row) ∧ Rw row ∧ Fits row b ∧ 0 < b ∧
  ∀ (p : Addr), H p = none → Q (.ref p) (upd H p (.lst (zv (allL row b))))
/-- slots: row bound found prime ahead number -/
abbrev n_law_made : List Str := ["row", "bound", "found", "prime", "ahead", "number"]
def t_law_made (K : PySem.W.Frag) : TS := (sFg (tSeq (tAsg (tLst (tCons (tC (.int 1)) tNil)) (gName 2))
  (tSeq (tFor (iList K (tVar 0)) (gName 3) (tSeq (tAsg (tCB (cList K) (tCons (tVar 2) tNil)) (gName 4))
  (tWhile (bFg (tTest (tOp (rNeD K) (tVar 4) (tLst tNil)))) (tSeq (tAsg (tLc (iList K (tVar 4)) (gName 5) (tTest (tOp oLe (tOp oMul (tVar 5) (tVar 3)) (tVar 1))) (tOp oMul (tVar 5) (tVar 3)) [5]) (gName 4))
  (tDrop (tBM K "list" rExtend (tVar 2) (tCons (tVar 4) tNil)))))))
  (tRet (tCB (rSortedI K) (tCons (tVar 2) tNil))))))
/-- [number * prime for number in ahead if number * prime <= bound] -/
theorem el_up {K : PySem.W.Frag} {σ : L2.St} {H : Hp} {pa : Addr} {A : List Nat} {p b : Nat} (hA : SqL K H pa (zv A)) (hlen : A.length ≤ 9000000) (hb : b < 2 ^ 70) (hAb : ∀ x ∈ A, x ≤ b) (hp : p ≤ 97) (h1 : σ[1]? = some (some (.int (b : Int)))) (h3 : σ[3]? = some (some (.int (p : Int)))) (h4 : σ[4]? = some (some (.ref pa))) (hs : σ.length = 6) :
    EvL (tLc (iList K (tVar 4)) (gName 5) (tTest (tOp oLe (tOp oMul (tVar 5) (tVar 3)) (tVar 1))) (tOp oMul (tVar 5) (tVar 3)) [5]) σ H (zv (lvUp p b A)) := by
  obtain ⟨s0, s1, s2, s3, s4, s5, rfl⟩ : ∃ s0 s1 s2 s3 s4 s5, σ = [s0, s1, s2, s3, s4, s5] := by
    match σ, hs with
    | [s0, s1, s2, s3, s4, s5], _ => exact ⟨s0, s1, s2, s3, s4, s5, rfl⟩
  simp only [List.getElem?_cons_succ, List.getElem?_cons_zero, Option.some.injEq] at h1 h3 h4
  subst h1 h3 h4
  rw [zv, ← lv_filter]
  have hbd : ∀ i ∈ zl A, 0 ≤ i ∧ i ≤ (b : Int) := fun i hi => by
    obtain ⟨x, hx, rfl⟩ := List.mem_map.mp hi
    have := hAb x hx
    omega
  exact el_lcI (fun i => decide (i * (p : Int) ≤ (b : Int))) (fun i => i * (p : Int)) (ev_v 4) hA (by rw [zl_len]; omega) (fun _ => rfl) (fun i hi D acc hD => et_t (ev_le (ev_mul (ev_v 5) (ev_v 3) (cm (by have := hbd i hi; omega))) (ev_v 1))) fun i hi _ D acc hD => ev_mul (ev_v 5) (ev_v 3) (cm (by have := hbd i hi; omega))
theorem r_law_made {K : PySem.W.Frag} {vs : List V} {H : Hp} {Q : VK} {E : XK} (h : sp_law_made K vs H Q E) : t_law_made K { nx := fun _ H' => Q .non H', rt := Q } (start n_law_made vs) H := by
  obtain ⟨nd, a, row, b, rfl, sa, w, f, hb0, q⟩ := h
  have g := w.good
  have hfit := w.fit f
  have hb := f.lt
  refine fg_body (q_setL (el_lst (ea_1 ev_c) (by simp)) fun p hp => ?_)
  have o : Own H [(p, zv [1])] (upd H p (.lst [.int 1])) := Own.nil.new hp
  refine q_forI (ns := zl row) (ev_v 0) (o.sq sa) (fun i σ' H' => ∃ (F : List Nat) (y3 y4 : Option V), σ' = [some (.ref a), some (.int b), some (.ref p), y3, y4, none] ∧ Own H [(p, zv F)] H' ∧ IsAll (row.take i) b F) ⟨[1], none, none, rfl, o, ?_⟩ (fun i σ' H' _ hv => ?_) (fun i x σ' H' hx hv => ?_) (fun σ' H' hv => ?_)
  · rw [List.take_zero]; exact all_nil hb0
  · obtain ⟨_, _, _, _, o, _⟩ := hv
    exact o.sq sa
  · obtain ⟨L, y3, y4, rfl, o, hL⟩ := hv
    rw [List.getElem?_map] at hx
    cases e : row[i]? with
    | none => rw [e] at hx; cases hx
    | some pr =>
      rw [e] at hx
      cases hx
      have gd := take_good g e
      have hp2 := w.ge (List.mem_of_getElem? e)
      have hcap : cnt (pr :: row.take i) b ≤ 9000000 := Nat.le_trans (take_cnt e) hfit
      refine q_setL (el_list (ev_v 2) (o.sqi 0 rfl)) fun pa hpa => ?_
      replace o := o.new (xs := zv L) hpa
      refine s_while (fun m σ' H' => ∃ (F A : List Nat) (j : Nat) (pa : Addr), σ' = [some (.ref a), some (.int b), some (.ref p), some (.int (pr : Int)), some (.ref pa), none] ∧ Own H [(pa, zv A), (p, zv F)] H' ∧ Lv (row.take i) L pr b F A j ∧ m = 71 - j ∧ j ≤ 70) 71 ⟨L, L, 0, pa, rfl, o, .start hL, rfl, by omega⟩ (fun m σ' H' hw => ?_)
      obtain ⟨F, A, j, pa, rfl, o, v, rfl, hj⟩ := hw
      have hlens := cnt_of_lv v hcap
      have no := o.nod
      refine ⟨_, et_nonil (ns := zl A) (o.sqi 0 rfl) (ev_v 4), fun hc => ?_, fun hc => ?_⟩
      · have hA : A ≠ [] := fun z => by subst z; simp at hc
        have hj70 := v.lt gd hL hb hA
        refine q_setL (el_up (o.sqi 0 rfl) hlens.2 hb (fun x hx => (v.made x (v.aj x hx).1).2) hp2.2 rfl rfl rfl rfl) fun pn hpn => ?_
        have o2 := o.new (xs := zv (lvUp pr b A)) hpn
        have v2 := v.step gd hL
        have hl2 := cnt_of_lv v2 hcap
        rw [List.length_append] at hl2
        refine s_ext (o2.atI 2 rfl) (o2.atI 0 rfl) ?_ (ev_v 2) (ev_v 4) ⟨71 - (j + 1), by omega, _, _, j + 1, pn, rfl, ?_, v2, rfl, by omega⟩
        · rw [zv_len, zv_len]; exact Nat.le_of_lt (szl (by omega))
        · rw [← zv_app]
          exact (o2.mut (ys := zv (F ++ lvUp pr b A)) 2 rfl).drop2
      · have hA : A = [] := by simpa using hc
        subst hA
        exact ⟨F, _, _, rfl, o.drop1, take_all e (v.fin gd hL)⟩
  · obtain ⟨F, y3, y4, rfl, o, hF⟩ := hv
    rw [zl_len, List.take_length] at hF
    refine s_retW (w_cb (w_one (w_v 2 (r_sortN (o.sqi 0 rfl) fun l ps hl hle hps => ?_))))
    rw [hF.sorted hl hle]
    have o2 := o.new (xs := zv (allL row b)) hps
    exact ⟨_, o2.ret 0 rfl, q ps (o2.offI 0 rfl)⟩
end Px
set_option Elab.async false
set_option linter.all false
set_option maxRecDepth 100000
set_option maxHeartbeats 4000000
namespace Px
open PySem L2 MA
local macro_rules | `(tactic| bv_omega) => `(tactic| first | assumption | omega | exact cm (by omega) | exact cd (by omega) | exact cp (by omega) | exact trivial)
local macro_rules | `(tactic| array_get_dec) => `(tactic| first
  | assumption
  | exact sq_up
  | exact Own.sqi (by assumption) 0 (by rfl)
  | exact Own.sqi (by assumption) 1 (by rfl)
  | exact Own.sqi (by assumption) 2 (by rfl)
  | exact Own.sqi (by assumption) 3 (by rfl)
  | exact Own.sqi (by assumption) 4 (by rfl)
  | exact Own.sq (by assumption) (by assumption)
  | exact sq_new (by assumption) (by assumption))
local macro_rules | `(tactic| clean_wf) => `(tactic| first
  | with_reducible exact ev_c
  | (with_reducible apply ev_v') <;> rfl
  | (with_reducible apply ev_add) <;> clean_wf
  | (with_reducible apply ev_sub) <;> clean_wf
  | (with_reducible apply ev_mul) <;> clean_wf
  | (with_reducible apply ev_mod) <;> clean_wf
  | (with_reducible apply ev_div) <;> clean_wf
  | (with_reducible apply ev_pow) <;> clean_wf
  | (with_reducible apply ev_neg) <;> clean_wf
  | (with_reducible apply ev_lt) <;> clean_wf
  | (with_reducible apply ev_le) <;> clean_wf
  | (with_reducible apply ev_gt) <;> clean_wf
  | (with_reducible apply ev_ge) <;> clean_wf
  | (with_reducible apply ev_eqi) <;> clean_wf
  | (with_reducible apply ev_nei) <;> clean_wf
  | (with_reducible apply ev_len) <;> clean_wf
  | (with_reducible apply ev_ixL) <;> clean_wf
  | (with_reducible apply ev_min) <;> clean_wf
  | (with_reducible apply ev_max) <;> clean_wf
  | (with_reducible apply ev_abs) <;> clean_wf
  | (with_reducible apply ev_intB) <;> clean_wf
  | (with_reducible apply ea_1) <;> clean_wf
  | (with_reducible apply ea_2) <;> clean_wf
  | (with_reducible apply ea_3) <;> clean_wf
  | with_reducible exact ea_nil
  | (with_reducible apply ea_cons) <;> clean_wf
  | with_reducible exact el_nil
  | (with_reducible apply ep_lt) <;> clean_wf
  | (with_reducible apply ep_le) <;> clean_wf
  | (with_reducible apply ep_gt) <;> clean_wf
  | (with_reducible apply ep_ge) <;> clean_wf
  | (with_reducible apply ep_eqi) <;> clean_wf
  | (with_reducible apply ep_nei) <;> clean_wf
  | (with_reducible apply ep_not) <;> clean_wf
  | ((with_reducible apply ep_and) <;> first | (intro _; clean_wf; done) | clean_wf)
  | ((with_reducible apply ep_or) <;> first | (intro _; clean_wf; done) | clean_wf)
  | (with_reducible apply et_t) <;> clean_wf
  | (with_reducible apply eo_is) <;> clean_wf
  | with_reducible exact eo_no
  | array_get_dec
  | bv_omega
  | rfl
  | skip)
local macro_rules | `(tactic| symm_saturate) => `(tactic| first
  | ((with_reducible apply q_set); (focus (clean_wf; done)))
  | ((with_reducible apply s_set); (focus (clean_wf; done)))
  | ((with_reducible apply q_aug (hx := rfl)); (focus (clean_wf; done)))
  | ((with_reducible apply s_aug (hx := rfl)); (focus (clean_wf; done)))
  | ((with_reducible apply q_augC (hx := rfl)); (focus (clean_wf; done)))
  | ((with_reducible apply s_augC (hx := rfl)); (focus (clean_wf; done))))
local macro_rules | `(tactic| subst_eqs) => `(tactic| repeat' (first
  | with_reducible apply w_c
  | ((with_reducible apply w_v'); (focus rfl))
  | with_reducible apply w_op
  | with_reducible apply w_cb
  | with_reducible apply w_cons
  | with_reducible apply w_nil
  | with_reducible apply r_add
  | with_reducible apply r_sub
  | ((with_reducible apply r_mul); (focus (bv_omega; done)))
  | ((with_reducible apply r_div); (focus (bv_omega; done)))
  | ((with_reducible apply r_mod); (focus (bv_omega; done)))
  | ((with_reducible apply r_pow); (focus (bv_omega; done)))
  | with_reducible apply r_lt
  | with_reducible apply r_le
  | with_reducible apply r_gt
  | with_reducible apply r_ge
  | with_reducible apply r_min
  | with_reducible apply r_max
  | with_reducible apply r_intB
  | ((with_reducible apply r_len); (focus (array_get_dec; done)))
  | with_reducible apply w_callW
  | with_reducible apply q_setW
  | with_reducible apply s_setW
  | with_reducible apply s_retW))

/-! ### a bound -/
def sp_law_bound (K : PySem.W.Frag) : Sp := fun vs H Q _ => Nod H ∧ ∃ (a r : Addr) (d s : Int) (row : List Nat) (few most : Nat), vs = [.ref a, .ref r, .int (few : Int), .int (most : Int)] ∧ H a = some (.lst (hd d s)) ∧ HdOk d s ∧ SqL K H r (zv row) ∧ r ≠ a ∧ Rw row ∧ row ≠ [] ∧ few ≤ most ∧ 0 < most ∧ most ≤ 10 ^ 18 ∧
  ∀ (n : Nat) (d' s' : Int), n ≤ most → HdOk d' s' → Q (.int (n : Int)) (upd H a (.lst (hd d' s')))
/-- slots: hand row few most way far found turn prime -/
abbrev n_law_bound : List Str := ["hand", "row", "few", "most", "way", "far", "found", "turn", "prime"]
def t_law_bound (K : PySem.W.Frag) : TS := (sFg (tSeq (tAsg (tCall (sp_law_draw K) [] E0 (tCons (tVar 0) (tCons (tC (.int 6)) tNil))) (gName 4))
  (tSeq (tIfS (tTest (tOp oLt (tVar 4) (tC (.int 2)))) (tRet (tCall (sp_law_draw K) [] E0 (tCons (tVar 0) (tCons (tOp oAdd (tVar 2) (tC (.int 1))) tNil)))) tNext)
  (tSeq (tIfS (tTest (tOp rEq (tVar 4) (tC (.int 2)))) (tRet (tVar 3)) tNext)
  (tSeq (tAsg (tOp oAdd (tOp oAdd (tOp oMul (tCall (sp_law_draw K) [] E0 (tCons (tVar 0) (tCons (tOp oPow (tC (.int 10)) (tC (.int 6))) tNil))) (tOp oPow (tC (.int 10)) (tC (.int 12)))) (tOp oMul (tCall (sp_law_draw K) [] E0 (tCons (tVar 0) (tCons (tOp oPow (tC (.int 10)) (tC (.int 6))) tNil))) (tOp oPow (tC (.int 10)) (tC (.int 6))))) (tCall (sp_law_draw K) [] E0 (tCons (tVar 0) (tCons (tOp oPow (tC (.int 10)) (tC (.int 6))) tNil)))) (gName 5))
  (tSeq (tAsg (tOp oMod (tVar 5) (tOp oAdd (tVar 3) (tC (.int 1)))) (gName 5))
  (tSeq (tIfS (tTest (tOp rEq (tVar 4) (tC (.int 3)))) (tRet (tVar 5)) tNext)
  (tSeq (tAsg (tC (.int 1)) (gName 6))
  (tSeq (tFor (iRng1 (tCons (tCall (sp_law_draw K) [] E0 (tCons (tVar 0) (tCons (tC (.int 60)) tNil))) tNil)) (gName 7) (tSeq (tAsg (tOp (rIxL K) (tVar 1) (tCall (sp_law_draw K) [] E0 (tCons (tVar 0) (tCons (tCB (cLen K) (tCons (tVar 1) tNil)) tNil)))) (gName 8))
  (tIfS (tTest (tOp oLe (tOp oMul (tVar 6) (tVar 8)) (tVar 3))) (tAsg (tOp oMul (tVar 6) (tVar 8)) (gName 6)) tNext)))
  (tRet (tCB cMax (tCons (tC (.int 0)) (tCons (tCB cMin (tCons (tVar 3) (tCons (tOp oAdd (tVar 6) (tOp (rIxL K) (tLst (tCons (tC (.int 0)) (tCons (tOp oSub (tCall (sp_law_draw K) [] E0 (tCons (tVar 0) (tCons (tC (.int 5)) tNil))) (tC (.int 2))) tNil))) (tOp oSub (tVar 4) (tC (.int 4))))) tNil))) tNil)))))))))))))
theorem p6 : (10 : Int) ^ (6 : Int).toNat = 1000000 := rfl
theorem p12 : (10 : Int) ^ (12 : Int).toNat = 1000000000000 := rfl
theorem r_law_bound {K : PySem.W.Frag} {vs : List V} {H : Hp} {Q : VK} {E : XK} (h : sp_law_bound K vs H Q E) : t_law_bound K { nx := fun _ H' => Q .non H', rt := Q } (start n_law_bound vs) H := by
  obtain ⟨nd, a, r, d, s, row, few, most, rfl, ha, ok, hr, hra, w, hne, hfm, hm0, hm1, q⟩ := h
  have o : Own (del H a) [(a, hd d s)] H := .enter ha
  have hr' : SqL K (del H a) r (zv row) := del_sq hra hr
  have hlen : 0 < row.length := List.length_pos_iff.mpr hne
  have hl6 := w.le
  have fin : ∀ (n : Nat) (d s : Int) (H1 : Hp), n ≤ most → HdOk d s → Own (del H a) [(a, hd d s)] H1 → ∃ H'', Fg H H1 H'' ∧ Q (.int (n : Int)) H'' := fun n d s H1 hn ok o => ⟨_, o.exit ha 0 rfl, q n d s hn ok⟩
  refine fg_body ?_
  subst_eqs
  refine o.draw 0 rfl ok (by omega) fun way d s H1 hway ok o => ?_
  refine q_whenP (by clean_wf) (fun _ => ?_) fun hw2 => ?_
  · subst_eqs
    refine o.draw 0 rfl ok (by omega) fun n d s H1 hn ok o => ?_
    obtain ⟨n, rfl⟩ : ∃ t' : Nat, n = (t' : Int) := ⟨n.toNat, by omega⟩
    exact fin n d s H1 (by omega) ok o
  refine q_whenP (by clean_wf) (fun _ => s_ret (ev_v 3) (fin most d s H1 (by omega) ok o)) fun hw3 => ?_
  refine q_setW (w_op (w_op (w_op (w_callW (w_cons (w_v 0 (w_one (w_ev (ev_pow ev_c ev_c (cp (by omega))) ?_))))))))
  rw [p6]
  refine o.draw 0 rfl ok (by omega) fun x1 d s H1 h1 ok o => ?_
  refine w_ev (ev_pow ev_c ev_c (cp (by omega))) ?_
  rw [p12]
  refine r_mul (cm (by omega)) (w_op (w_callW (w_cons (w_v 0 (w_one (w_ev (ev_pow ev_c ev_c (cp (by omega))) ?_))))))
  rw [p6]
  refine o.draw 0 rfl ok (by omega) fun x2 d s H1 h2 ok o => ?_
  refine w_ev (ev_pow ev_c ev_c (cp (by omega))) ?_
  rw [p6]
  refine r_mul (cm (by omega)) (r_add (w_callW (w_cons (w_v 0 (w_one (w_ev (ev_pow ev_c ev_c (cp (by omega))) ?_))))))
  rw [p6]
  refine o.draw 0 rfl ok (by omega) fun x3 d s H1 h3 ok o => r_add ?_
  refine q_set (ev_mod (ev_v 5) (ev_add (ev_v 3) ev_c) (by omega)) ?_
  generalize hf : (x1 * 1000000000000 + x2 * 1000000 + x3) % ((most : Int) + 1) = far
  have hf0 : 0 ≤ far ∧ far < (most : Int) + 1 := by
    rw [← hf]
    exact ⟨Int.emod_nonneg _ (by omega), Int.emod_lt_of_pos _ (by omega)⟩
  obtain ⟨far, rfl⟩ : ∃ t' : Nat, far = (t' : Int) := ⟨far.toNat, by omega⟩
  refine q_whenP (by clean_wf) (fun _ => s_ret (ev_v 5) (fin far d s H1 (by omega) ok o)) fun hw4 => ?_
  refine q_set ev_c (q_seq (w_forR1 (w_one (w_callW (w_cons (w_v 0 (w_one (w_c ?_))))))))
  refine o.draw 0 rfl ok (by omega) fun k d s H2 hk ok o => ⟨k, rfl, by omega, by omega, ?_⟩
  refine lp_range (fun i σ' H' => ∃ (f : Nat) (d s : Int) (y7 y8 : Option V), σ' = [some (.ref a), some (.ref r), some (.int few), some (.int most), some (.int way), some (.int far), some (.int f), y7, y8] ∧ Own (del H a) [(a, hd d s)] H' ∧ HdOk d s ∧ f ≤ most) ⟨1, d, s, none, none, rfl, o, ok, by omega⟩ (fun i σ' H' hi hv => ?_) (fun σ' H' hv => ?_)
  · obtain ⟨f, d, s, y7, y8, rfl, o, ok, hft⟩ := hv
    have hsq := o.sq hr'
    refine q_setW (w_op (w_v 1 (w_callW (w_cons (w_v 0 (w_one (w_ev (ev_len (ev_v 1) hsq) ?_)))))))
    rw [zv_len]
    refine o.draw 0 rfl ok (by omega) fun j d s H2 hj ok o => ?_
    obtain ⟨j, rfl⟩ : ∃ k : Nat, j = (k : Int) := ⟨j.toNat, by omega⟩
    have hjl : j < row.length := by omega
    refine r_ix (o.sq hr') (zv_at hjl) ?_
    have hp := w.ge (List.getElem_mem hjl)
    generalize row[j] = p at hp
    have hfp : (f : Int) * (p : Int) = ((f * p : Nat) : Int) := by simp
    refine s_whenP (ep_le (ev_mul (ev_v 6) (ev_v 8) (cm (by omega))) (ev_v 3)) (fun hc => ?_) fun _ => ⟨f, d, s, _, _, rfl, o, ok, hft⟩
    rw [hfp] at hc
    exact s_set (ev_eq (ev_mul (ev_v 6) (ev_v 8) (cm (by omega))) (congrArg V.int hfp)) ⟨f * p, d, s, _, _, rfl, o, ok, by omega⟩
  · obtain ⟨f, d, s, y7, y8, rfl, o, ok, hft⟩ := hv
    refine s_retW (w_cb (w_cons (w_c (w_one (w_cb (w_cons (w_v 3 (w_one (w_op (w_v 6 (w_op (w_lst (w_cons (w_c (w_one (w_op (w_callW (w_cons (w_v 0 (w_one (w_c ?_)))))))))))))))))))))
    refine o.draw 0 rfl ok (by omega) fun g d s H2 hg ok o => w_c (r_sub ⟨(by show 2 ≤ sizeLine; decide), fun pl hpl => ?_⟩)
    have o2 := o.tmp (xs := [.int 0, .int (g - 2)]) hpl
    refine w_ev (ev_sub (ev_v 4) ev_c) ?_
    obtain ⟨z, hz⟩ : ∃ z : Int, atI [V.int 0, .int (g - 2)] (way - 4) = some (.int z) := by
      rcases (by omega : way = 4 ∨ way = 5) with rfl | rfl
      · exact ⟨0, rfl⟩
      · exact ⟨g - 2, rfl⟩
    refine r_ix sq_up hz (r_add (r_min (r_max ?_)))
    obtain ⟨m, e, hm⟩ : ∃ m : Nat, (if (if (f : Int) + z < (most : Int) then (f : Int) + z else (most : Int)) > 0 then (if (f : Int) + z < (most : Int) then (f : Int) + z else (most : Int)) else 0) = (m : Int) ∧ m ≤ most := by
      refine ⟨(if (if (f : Int) + z < (most : Int) then (f : Int) + z else (most : Int)) > 0 then (if (f : Int) + z < (most : Int) then (f : Int) + z else (most : Int)) else 0).toNat, ?_, ?_⟩ <;> split <;> split <;> omega
    rw [e]
    exact fin m d s _ hm ok o2
theorem Own.bound {K : PySem.W.Frag} {B H : Hp} {L : List (Addr × List V)} {p r : Addr} {d s : Int} {row : List Nat} {few most : Nat} {Q : VK} {E : XK} (o : Own B L H) (i : Nat) (h : L[i]? = some (p, hd d s)) (ok : HdOk d s) (hr : SqL K H r (zv row)) (hrp : r ≠ p) (w : Rw row) (hne : row ≠ []) (t : few ≤ most ∧ 0 < most ∧ most ≤ 10 ^ 18)
    (k : ∀ (n : Nat) (d' s' : Int) (H2 : Hp), n ≤ most → HdOk d' s' → Own B (L.set i (p, hd d' s')) H2 → Q (.int (n : Int)) H2) : sp_law_bound K ([.ref p, .ref r, .int (few : Int), .int (most : Int)] ++ []) H Q E :=
  ⟨o.nod, p, r, d, s, row, few, most, rfl, o.atI i h, ok, hr, hrp, w, hne, t.1, t.2.1, t.2.2, fun n d' s' h1 ok' => k n d' s' _ h1 ok' (o.mut i h)⟩
theorem Own.rowB {K : PySem.W.Frag} {B H : Hp} {L : List (Addr × List V)} {p : Addr} {d s : Int} {Q : VK} {E : XK} (o : Own B L H) (i : Nat) (h : L[i]? = some (p, hd d s)) (ok : HdOk d s)
    (k : ∀ (r : Addr) (row : List Nat) (d' s' : Int) (H2 : Hp), Rw row → row ≠ [] → HdOk d' s' → Own B ((r, zv row) :: L.set i (p, hd d' s')) H2 → Q (.ref r) H2) : sp_law_row K ([.ref p] ++ []) H Q E :=
  ⟨o.nod, p, d, s, rfl, o.atI i h, ok, fun r row d' s' hr w hne ok' => k r row d' s' _ w hne ok' ((o.mut i h).new (by rw [upd_ne (Ne.symm (ne_of_none (o.atI i h) hr))]; exact hr))⟩
end Px
set_option Elab.async false
set_option linter.all false
set_option maxRecDepth 100000
set_option maxHeartbeats 4000000
namespace Px
open PySem L2 MA
local macro_rules | `(tactic| bv_omega) => `(tactic| first | assumption | omega | exact cm (by omega) | exact cd (by omega) | exact cp (by omega) | exact trivial)
local macro_rules | `(tactic| array_get_dec) => `(tactic| first
  | assumption
  | exact sq_up
  | exact Own.sqi (by assumption) 0 (by rfl)
  | exact Own.sqi (by assumption) 1 (by rfl)
  | exact Own.sqi (by assumption) 2 (by rfl)
  | exact Own.sqi (by assumption) 3 (by rfl)
  | exact Own.sqi (by assumption) 4 (by rfl)
  | exact Own.sq (by assumption) (by assumption)
  | exact sq_new (by assumption) (by assumption))
local macro_rules | `(tactic| clean_wf) => `(tactic| first
  | with_reducible exact ev_c
  | (with_reducible apply ev_v') <;> rfl
  | (with_reducible apply ev_add) <;> clean_wf
  | (with_reducible apply ev_sub) <;> clean_wf
  | (with_reducible apply ev_mul) <;> clean_wf
  | (with_reducible apply ev_mod) <;> clean_wf
  | (with_reducible apply ev_div) <;> clean_wf
  | (with_reducible apply ev_pow) <;> clean_wf
  | (with_reducible apply ev_neg) <;> clean_wf
  | (with_reducible apply ev_lt) <;> clean_wf
  | (with_reducible apply ev_le) <;> clean_wf
  | (with_reducible apply ev_gt) <;> clean_wf
  | (with_reducible apply ev_ge) <;> clean_wf
  | (with_reducible apply ev_eqi) <;> clean_wf
  | (with_reducible apply ev_nei) <;> clean_wf
  | (with_reducible apply ev_len) <;> clean_wf
  | (with_reducible apply ev_ixL) <;> clean_wf
  | (with_reducible apply ev_min) <;> clean_wf
  | (with_reducible apply ev_max) <;> clean_wf
  | (with_reducible apply ev_abs) <;> clean_wf
  | (with_reducible apply ev_intB) <;> clean_wf
  | (with_reducible apply ea_1) <;> clean_wf
  | (with_reducible apply ea_2) <;> clean_wf
  | (with_reducible apply ea_3) <;> clean_wf
  | with_reducible exact ea_nil
  | (with_reducible apply ea_cons) <;> clean_wf
  | with_reducible exact el_nil
  | (with_reducible apply ep_lt) <;> clean_wf
  | (with_reducible apply ep_le) <;> clean_wf
  | (with_reducible apply ep_gt) <;> clean_wf
  | (with_reducible apply ep_ge) <;> clean_wf
  | (with_reducible apply ep_eqi) <;> clean_wf
  | (with_reducible apply ep_nei) <;> clean_wf
  | (with_reducible apply ep_not) <;> clean_wf
  | ((with_reducible apply ep_and) <;> first | (intro _; clean_wf; done) | clean_wf)
  | ((with_reducible apply ep_or) <;> first | (intro _; clean_wf; done) | clean_wf)
  | (with_reducible apply et_t) <;> clean_wf
  | (with_reducible apply eo_is) <;> clean_wf
  | with_reducible exact eo_no
  | array_get_dec
  | bv_omega
  | rfl
  | skip)
local macro_rules | `(tactic| symm_saturate) => `(tactic| first
  | ((with_reducible apply q_set); (focus (clean_wf; done)))
  | ((with_reducible apply s_set); (focus (clean_wf; done)))
  | ((with_reducible apply q_aug (hx := rfl)); (focus (clean_wf; done)))
  | ((with_reducible apply s_aug (hx := rfl)); (focus (clean_wf; done)))
  | ((with_reducible apply q_augC (hx := rfl)); (focus (clean_wf; done)))
  | ((with_reducible apply s_augC (hx := rfl)); (focus (clean_wf; done))))
local macro_rules | `(tactic| subst_eqs) => `(tactic| repeat' (first
  | with_reducible apply w_c
  | ((with_reducible apply w_v'); (focus rfl))
  | with_reducible apply w_op
  | with_reducible apply w_cb
  | with_reducible apply w_cons
  | with_reducible apply w_nil
  | with_reducible apply r_add
  | with_reducible apply r_sub
  | ((with_reducible apply r_mul); (focus (bv_omega; done)))
  | ((with_reducible apply r_div); (focus (bv_omega; done)))
  | ((with_reducible apply r_mod); (focus (bv_omega; done)))
  | ((with_reducible apply r_pow); (focus (bv_omega; done)))
  | with_reducible apply r_lt
  | with_reducible apply r_le
  | with_reducible apply r_gt
  | with_reducible apply r_ge
  | with_reducible apply r_min
  | with_reducible apply r_max
  | with_reducible apply r_intB
  | ((with_reducible apply r_len); (focus (array_get_dec; done)))
  | with_reducible apply w_callW
  | with_reducible apply q_setW
  | with_reducible apply s_setW
  | with_reducible apply s_retW))

def sp_made_toN (K : PySem.W.Frag) : Sp := fun vs H Q _ => Nod H ∧ ∃ (a : Addr) (row : List Nat) (b : Nat), vs = [.ref a, .int (b : Int)] ∧ SqL K H a (zv row) ∧ Rw row ∧ Fits row b ∧ 0 < b ∧
  ∀ (p : Addr), H p = none → Q (.ref p) (upd H p (.lst (zv (allL row b))))
/-- slots: row bound found prime ahead number -/
abbrev n_made_toN : List Str := ["row", "bound", "found", "prime", "ahead", "number"]
def t_made_toN (K : PySem.W.Frag) : TS := (sFg (tSeq (tAsg (tLst (tCons (tC (.int 1)) tNil)) (gName 2))
  (tSeq (tFor (iList K (tVar 0)) (gName 3) (tSeq (tAsg (tVar 2) (gName 4))
  (tWhile (bFg (tTest (tOp (rNeD K) (tVar 4) (tLst tNil)))) (tSeq (tAsg (tLc (iList K (tVar 4)) (gName 5) (tTest (tOp oLe (tOp oMul (tVar 5) (tVar 3)) (tVar 1))) (tOp oMul (tVar 5) (tVar 3)) [5]) (gName 4))
  (tAsg (tOp rCat (tVar 2) (tVar 4)) (gName 2))))))
  (tRet (tFg (tCB (rSortedI K) (tCons (tLc (iList K (tVar 2)) (gName 5) (tTest (tOp oLe (tVar 5) (tVar 1))) (tVar 5) [5]) tNil)))))))
theorem filt_le (l : List Nat) (b : Nat) : (((zl l).filter fun i => decide (i ≤ (b : Int))).map fun i => i) = zl (l.filter fun x => decide (x ≤ b)) := by
  induction l with
  | nil => rfl
  | cons a l ih =>
    simp only [zl, List.map_cons, List.filter_cons, List.map_id'] at ih ⊢
    have e : decide ((a : Int) ≤ (b : Int)) = decide (a ≤ b) := decide_eq_decide.mpr (by omega)
    rw [e]
    by_cases h : a ≤ b
    · simp only [h, decide_true, if_true, List.map_cons, ih]
    · simp only [h, decide_false, Bool.false_eq_true, if_false, ih]
theorem r_made_toN {K : PySem.W.Frag} {vs : List V} {H : Hp} {Q : VK} {E : XK} (h : sp_made_toN K vs H Q E) : t_made_toN K { nx := fun _ H' => Q .non H', rt := Q } (start n_made_toN vs) H := by
  obtain ⟨nd, a, row, b, rfl, sa, w, f, hb0, q⟩ := h
  have g := w.good
  have hfit := w.fit f
  have hb := f.lt
  refine fg_body (q_setL (el_lst (ea_1 ev_c) (by simp)) fun p hp => ?_)
  have o : Own H [(p, zv [1])] (upd H p (.lst [.int 1])) := Own.nil.new hp
  refine q_forI (ns := zl row) (ev_v 0) (o.sq sa) (fun i σ' H' => ∃ (F : List Nat) (p : Addr) (y3 y4 : Option V), σ' = [some (.ref a), some (.int b), some (.ref p), y3, y4, none] ∧ Own H [(p, zv F)] H' ∧ IsAll (row.take i) b F) ⟨[1], p, none, none, rfl, o, ?_⟩ (fun i σ' H' _ hv => ?_) (fun i x σ' H' hx hv => ?_) (fun σ' H' hv => ?_)
  · rw [List.take_zero]; exact all_nil hb0
  · obtain ⟨_, _, _, _, _, o, _⟩ := hv
    exact o.sq sa
  · obtain ⟨L, p, y3, y4, rfl, o, hL⟩ := hv
    rw [List.getElem?_map] at hx
    cases e : row[i]? with
    | none => rw [e] at hx; cases hx
    | some pr =>
      rw [e] at hx
      cases hx
      have gd := take_good g e
      have hp2 := w.ge (List.mem_of_getElem? e)
      have hcap : cnt (pr :: row.take i) b ≤ 9000000 := Nat.le_trans (take_cnt e) hfit
      refine q_set (ev_v 2) (s_while (fun m σ' H' => ∃ (F A : List Nat) (j : Nat) (p pa : Addr), σ' = [some (.ref a), some (.int b), some (.ref p), some (.int (pr : Int)), some (.ref pa), none] ∧ Own H [(p, zv F)] H' ∧ H' pa = some (.lst (zv A)) ∧ Lv (row.take i) L pr b F A j ∧ m = 71 - j ∧ j ≤ 70) 71 ⟨L, L, 0, p, p, rfl, o, o.atI 0 rfl, .start hL, rfl, by omega⟩ (fun m σ' H' hw => ?_))
      obtain ⟨F, A, j, p, pa, rfl, o, ha, v, rfl, hj⟩ := hw
      have hlens := cnt_of_lv v hcap
      have no := o.nod
      refine ⟨_, et_nonil (ns := zl A) (sq_at ha) (ev_v 4), fun hc => ?_, fun hc => ?_⟩
      · have hA : A ≠ [] := fun z => by subst z; simp at hc
        have hj70 := v.lt gd hL hb hA
        refine q_setL (el_up (sq_at ha) hlens.2 hb (fun x hx => (v.made x (v.aj x hx).1).2) hp2.2 rfl rfl rfl rfl) fun pn hpn => ?_
        have o2 := o.new (xs := zv (lvUp pr b A)) hpn
        have v2 := v.step gd hL
        have hl2 := cnt_of_lv v2 hcap
        rw [List.length_append] at hl2
        refine s_setL (el_cat (ev_v 2) (ev_v 4) (o2.atI 1 rfl) (o2.atI 0 rfl) ?_) fun pc hpc => ?_
        · rw [zv_len, zv_len]; exact Nat.le_of_lt (szl (by omega))
        · rw [← zv_app]
          have o3 := o2.new (xs := zv (F ++ lvUp pr b A)) hpc
          exact ⟨71 - (j + 1), by omega, _, _, j + 1, pc, pn, rfl, o3.drop2.drop2, o3.atI 1 rfl, v2, rfl, by omega⟩
      · have hA : A = [] := by simpa using hc
        subst hA
        exact ⟨F, p, _, _, rfl, o, take_all e (v.fin gd hL)⟩
  · obtain ⟨F, p, y3, y4, rfl, o, hF⟩ := hv
    rw [zl_len, List.take_length] at hF
    have hFl : F.length ≤ 9000000 := by rw [hF.len]; exact hfit
    refine s_retW (w_fg (w_cb (w_one (w_evL (xs := zv F) ?_ fun pl hpl => ?_))))
    · have e : F = F.filter fun x => decide (x ≤ b) := (List.filter_eq_self.mpr fun x hx => decide_eq_true ((hF.2 x).mp hx).2).symm
      have := el_lcI (K := K) (σ := [some (.ref a), some (.int b), some (.ref p), y3, y4, none]) (H := H') (tl := tVar 2) (t := tTest (tOp oLe (tVar 5) (tVar 1))) (te := tVar 5) (n := 5) (vs := [5]) (ns := zl F) (fun i => decide (i ≤ (b : Int))) (fun i => i) (ev_v 2) (o.sqi 0 rfl) (by rw [zl_len]; omega) (fun _ => rfl) (fun i hi D acc hD => et_t (ev_le (ev_v 5) (ev_v 1))) fun i hi _ D acc hD => ev_v 5
      rw [filt_le, ← e] at this
      exact this
    · have o2 := o.new (xs := zv F) hpl
      refine r_sortN (o2.sqi 0 rfl) fun l ps hl hle hps => ?_
      rw [hF.sorted hl hle]
      have o3 := o2.new (xs := zv (allL row b)) hps
      have := o.nod
      refine ⟨upd H' ps (.lst (zv (allL row b))), fg_newL (none_upd hps).1 (ex_upd (none_upd hps).1 (ex_new hpl)) upd_same, _, ?_, q ps (o3.offI 0 rfl)⟩
      exact fg_newL (o3.offI 0 rfl) (ex_upd (o3.offI 0 rfl) o.ex) upd_same
/-! ### neighbours -/
theorem adj_zip : ∀ l : List Nat, ((l.zip (l.drop 1)).filter fun q => decide (q.2 = q.1 + 1)).map (·.1) = adj l
  | [] => rfl
  | [x] => rfl
  | x :: y :: r => by
    have ih := adj_zip (y :: r)
    simp only [List.drop_succ_cons, List.drop_zero, List.zip_cons_cons, List.filter_cons] at ih ⊢
    rw [adj]
    by_cases h : y = x + 1
    · simp only [h, decide_true, if_true, List.map_cons]
      rw [h] at ih
      exact congrArg _ ih
    · simp only [h, decide_false, Bool.false_eq_true, if_false]
      exact ih
def adjI (l : List Nat) (i : Nat) : List Nat := (((l.zip (l.drop 1)).take i).filter fun q => decide (q.2 = q.1 + 1)).map (·.1)
theorem adjI_yes {l : List Nat} {i x y : Nat} (h1 : l[i]? = some x) (h2 : (l.drop 1)[i]? = some y) (h : y = x + 1) : adjI l (i + 1) = adjI l i ++ [x] := by
  unfold adjI
  rw [List.take_add_one, (List.getElem?_zip_eq_some (z := (x, y))).mpr ⟨h1, h2⟩]
  simp [h]
theorem adjI_no {l : List Nat} {i x y : Nat} (h1 : l[i]? = some x) (h2 : (l.drop 1)[i]? = some y) (h : ¬ y = x + 1) : adjI l (i + 1) = adjI l i := by
  unfold adjI
  rw [List.take_add_one, (List.getElem?_zip_eq_some (z := (x, y))).mpr ⟨h1, h2⟩]
  simp [h]
theorem adjI_end {l : List Nat} {i : Nat} (h : i = min l.length (l.drop 1).length) : adjI l i = adj l := by
  unfold adjI
  rw [List.take_of_length_le (by rw [List.length_zip]; omega), adj_zip]
theorem adjI_len {l : List Nat} {i : Nat} : (adjI l i).length ≤ l.length := by
  unfold adjI
  rw [List.length_map]
  refine Nat.le_trans (List.length_filter_le _ _) ?_
  rw [List.length_take, List.length_zip]
  omega
def sp_neighbours (K : PySem.W.Frag) : Sp := fun vs H Q _ => Nod H ∧ ∃ (a : Addr) (row : List Nat) (b : Nat), vs = [.ref a, .int (b : Int)] ∧ RowAt H a row ∧ b ≤ 10 ^ 9 ∧
  ∀ (p : Addr), H p = none → Q (.ref p) (upd H p (.lst (zv (nb row b))))
/-- slots: row bound found firsts one other number -/
abbrev n_neighbours : List Str := ["row", "bound", "found", "firsts", "one", "other", "number"]
def t_neighbours (K : PySem.W.Frag) : TS := (sFg (tSeq (tDrop (tCall (sp_is_made_of K) [] E0 (tCons (tVar 0) (tCons (tC (.int 1)) tNil))))
  (tSeq (tAsg (tCall (sp_made_toN K) [] E0 (tCons (tVar 0) (tCons (tOp oAdd (tVar 1) (tC (.int 1))) tNil))) (gName 2))
  (tSeq (sFg (tAsg (tLc (iZip K (tCons (tVar 2) (tCons (tSl (rSlL K) (tVar 2) (tPart (tC (.int 1))) tNoPart) tNil))) (gTup K 2 (gCons (gName 4) (gCons (gName 5) gNil))) (tTest (tOp rEq (tVar 5) (tOp oAdd (tVar 4) (tC (.int 1))))) (tVar 4) [4, 5]) (gName 3)))
  (tRet (tLc (iList K (tVar 3)) (gName 6) (tTest (tOp oLe (tVar 6) (tVar 1))) (tVar 6) [6]))))))
open Classical in
theorem r_neighbours {K : PySem.W.Frag} {vs : List V} {H : Hp} {Q : VK} {E : XK} (h : sp_neighbours K vs H Q E) : t_neighbours K { nx := fun _ H' => Q .non H', rt := Q } (start n_neighbours vs) H := by
  obtain ⟨nd, a, row, b, rfl, r, hb, q⟩ := h
  have f : Fits row (b + 1) := .inr (.inr (by omega))
  have hfit := r.w.fit f
  refine fg_body (q_drop (e_made (n := 1) r (ev_v 0) ev_c _ ?_))
  refine q_setL (el_call (ea_2 (ev_v 0) (ev_eq (y := .int ((b + 1 : Nat) : Int)) (ev_add (i := (b : Int)) (ev_v 1) ev_c) rfl)) fun Q q => ⟨nd, a, row, b + 1, rfl, r.sq, r.w, f, by omega, q⟩) fun pf hpf => ?_
  have o : Own H [(pf, zv (allL row (b + 1)))] (upd H pf (.lst (zv (allL row (b + 1))))) := Own.nil.new hpf
  have hll : (allL row (b + 1)).length ≤ 9000000 := hfit
  generalize hl : allL row (b + 1) = l at o hll
  have no := o.nod
  generalize hH1 : upd H pf (.lst (zv l)) = H1 at o no
  refine q_seq (fg_body (s_asg (w_lcZ (w_cons (w_v 2 (w_one (w_evL (el_sl (ev_v 2) (eo_is ev_c) eo_no (o.sqi 0 rfl)) fun p1 hp1 => ?_)))))))
  rw [show (1 : Int) = ((1 : Nat) : Int) from rfl, cut_fromN]
  have o2 := o.new (xs := zv (l.drop 1)) hp1
  refine ⟨pf, p1, zv l, zv (l.drop 1), rfl, o2.sqi 1 rfl, o2.sqi 0 rfl, lcat_zip (fun D i H' => Own H1 [(D, zv (adjI l i)), (p1, zv (l.drop 1))] H') (fun D hD => ?_) (fun D i H' hD o' => ⟨sq_at (o'.ex _ _ (o.atI 0 rfl)), o'.sqi 1 rfl⟩) (fun x y => rfl) (fun D i x y Tp H' hD hx hy o' hTp => ?_) fun D H' hD o' => ?_⟩
  · exact ((Own.nil (H := H1)).new hp1).new hD
  · obtain ⟨x, hx2, rfl⟩ := zv_some hx
    obtain ⟨y, hy2, rfl⟩ := zv_some hy
    have o3 := o'.tup (xs := [V.int (x : Int), .int (y : Int)]) hTp
    refine ep_eqi (i := (y : Int)) (j := (x : Int) + 1) (ev_v 5) (ev_add (ev_v 4) ev_c) _ (fun he => iteT (w_v 4 ⟨_, o3.atI 0 rfl, ?_, ?_⟩)) (fun he => iteF ?_)
    · rw [zv_len]; exact szl (Nat.lt_of_le_of_lt adjI_len (by omega))
    · rw [adjI_yes hx2 hy2 (by omega), ← zv_one]
      exact o3.mut 0 rfl
    · rw [adjI_no hx2 hy2 (by omega)]
      exact o3
  · rw [zv_len, zv_len, adjI_end rfl] at o'
    refine ⟨upd H1 D (.lst (zv (adj l))), fg_newL (o'.offI 0 rfl) o'.ex (o'.atI 0 rfl), ?_⟩
    have o3 := o.new (xs := zv (adj l)) (o'.offI 0 rfl)
    have hal : (adj l).length ≤ 9000000 := Nat.le_trans (adj_sub l).length_le hll
    dsimp only
    refine s_retL (xs := zv (nb row b)) ?_ fun pr hpr => ?_
    rotate_left
    · exact ⟨_, (o3.new (xs := zv (nb row b)) hpr).ret 0 rfl, q pr ((o3.new (xs := zv (nb row b)) hpr).offI 0 rfl)⟩
    have := el_lcI (K := K) (σ := [some (.ref a), some (.int b), some (.ref pf), some (.ref D), none, none, none]) (H := upd H1 D (.lst (zv (adj l)))) (tl := tVar 3) (t := tTest (tOp oLe (tVar 6) (tVar 1))) (te := tVar 6) (n := 6) (vs := [6]) (ns := zl (adj l)) (fun i => decide (i ≤ (b : Int))) (fun i => i) (ev_v 3) (o3.sqi 0 rfl) (by rw [zl_len]; omega) (fun _ => rfl) (fun i hi D acc hD => et_t (ev_le (ev_v 6) (ev_v 1))) fun i hi _ D acc hD => ev_v 6
    rw [filt_le, ← hl, nb_adj] at this
    rw [← hl] at o3 ⊢
    exact this
theorem e_nb {K : PySem.W.Frag} {σ : L2.St} {H : Hp} {ta tb : TE} {a : Addr} {row : List Nat} {b : Nat} [nd : Nod H] (r : RowAt H a row) (hb : b ≤ 10 ^ 9) (ha : Ev ta σ H (.ref a)) (hbv : Ev tb σ H (.int (b : Int))) : EvL (tCall (sp_neighbours K) [] E0 (tCons ta (tCons tb tNil))) σ H (zv (nb row b)) :=
  el_call (ea_2 ha hbv) fun Q q => ⟨nd, a, row, b, rfl, r, hb, q⟩
end Px
set_option Elab.async false
set_option linter.all false
set_option maxRecDepth 100000
set_option maxHeartbeats 4000000
namespace Px
open PySem L2 MA
local macro_rules | `(tactic| bv_omega) => `(tactic| first | assumption | omega | exact cm (by omega) | exact cd (by omega) | exact cp (by omega) | exact trivial)
local macro_rules | `(tactic| array_get_dec) => `(tactic| first
  | assumption
  | exact sq_up
  | exact Own.sqi (by assumption) 0 (by rfl)
  | exact Own.sqi (by assumption) 1 (by rfl)
  | exact Own.sqi (by assumption) 2 (by rfl)
  | exact Own.sqi (by assumption) 3 (by rfl)
  | exact Own.sqi (by assumption) 4 (by rfl)
  | exact Own.sq (by assumption) (by assumption)
  | exact sq_new (by assumption) (by assumption))
local macro_rules | `(tactic| clean_wf) => `(tactic| first
  | with_reducible exact ev_c
  | (with_reducible apply ev_v') <;> rfl
  | (with_reducible apply ev_add) <;> clean_wf
  | (with_reducible apply ev_sub) <;> clean_wf
  | (with_reducible apply ev_mul) <;> clean_wf
  | (with_reducible apply ev_mod) <;> clean_wf
  | (with_reducible apply ev_div) <;> clean_wf
  | (with_reducible apply ev_pow) <;> clean_wf
  | (with_reducible apply ev_neg) <;> clean_wf
  | (with_reducible apply ev_lt) <;> clean_wf
  | (with_reducible apply ev_le) <;> clean_wf
  | (with_reducible apply ev_gt) <;> clean_wf
  | (with_reducible apply ev_ge) <;> clean_wf
  | (with_reducible apply ev_eqi) <;> clean_wf
  | (with_reducible apply ev_nei) <;> clean_wf
  | (with_reducible apply ev_len) <;> clean_wf
  | (with_reducible apply ev_ixL) <;> clean_wf
  | (with_reducible apply ev_min) <;> clean_wf
  | (with_reducible apply ev_max) <;> clean_wf
  | (with_reducible apply ev_abs) <;> clean_wf
  | (with_reducible apply ev_intB) <;> clean_wf
  | (with_reducible apply ea_1) <;> clean_wf
  | (with_reducible apply ea_2) <;> clean_wf
  | (with_reducible apply ea_3) <;> clean_wf
  | with_reducible exact ea_nil
  | (with_reducible apply ea_cons) <;> clean_wf
  | with_reducible exact el_nil
  | (with_reducible apply ep_lt) <;> clean_wf
  | (with_reducible apply ep_le) <;> clean_wf
  | (with_reducible apply ep_gt) <;> clean_wf
  | (with_reducible apply ep_ge) <;> clean_wf
  | (with_reducible apply ep_eqi) <;> clean_wf
  | (with_reducible apply ep_nei) <;> clean_wf
  | (with_reducible apply ep_not) <;> clean_wf
  | ((with_reducible apply ep_and) <;> first | (intro _; clean_wf; done) | clean_wf)
  | ((with_reducible apply ep_or) <;> first | (intro _; clean_wf; done) | clean_wf)
  | (with_reducible apply et_t) <;> clean_wf
  | (with_reducible apply eo_is) <;> clean_wf
  | with_reducible exact eo_no
  | array_get_dec
  | bv_omega
  | rfl
  | skip)
local macro_rules | `(tactic| symm_saturate) => `(tactic| first
  | ((with_reducible apply q_set); (focus (clean_wf; done)))
  | ((with_reducible apply s_set); (focus (clean_wf; done)))
  | ((with_reducible apply q_aug (hx := rfl)); (focus (clean_wf; done)))
  | ((with_reducible apply s_aug (hx := rfl)); (focus (clean_wf; done)))
  | ((with_reducible apply q_augC (hx := rfl)); (focus (clean_wf; done)))
  | ((with_reducible apply s_augC (hx := rfl)); (focus (clean_wf; done))))
local macro_rules | `(tactic| subst_eqs) => `(tactic| repeat' (first
  | with_reducible apply w_c
  | ((with_reducible apply w_v'); (focus rfl))
  | with_reducible apply w_op
  | with_reducible apply w_cb
  | with_reducible apply w_cons
  | with_reducible apply w_nil
  | with_reducible apply r_add
  | with_reducible apply r_sub
  | ((with_reducible apply r_mul); (focus (bv_omega; done)))
  | ((with_reducible apply r_div); (focus (bv_omega; done)))
  | ((with_reducible apply r_mod); (focus (bv_omega; done)))
  | ((with_reducible apply r_pow); (focus (bv_omega; done)))
  | with_reducible apply r_lt
  | with_reducible apply r_le
  | with_reducible apply r_gt
  | with_reducible apply r_ge
  | with_reducible apply r_min
  | with_reducible apply r_max
  | with_reducible apply r_intB
  | ((with_reducible apply r_len); (focus (array_get_dec; done)))
  | with_reducible apply w_callW
  | with_reducible apply q_setW
  | with_reducible apply s_setW
  | with_reducible apply s_retW))

section
variable {K : PySem.W.Frag} {σ : L2.St} {H : Hp} {te : TE} {t : TT} {n : Nat}
/-- [te for i in range(lo, k) if t] -/
theorem el_lcR2 {ta : TA} {lo k : Int} {vs : List Nat} (p : Int → Bool) (f : Int → V) (h : EvA ta σ H [.int lo, .int k]) (hk : -(2 ^ 62) ≤ lo ∧ lo < 2 ^ 62 ∧ -(2 ^ 62) ≤ k ∧ k < 2 ^ 62 ∧ k - lo ≤ 16000000) (hw : ∀ x, wipe ((wipe σ vs).set n (some x)) vs = wipe σ vs)
    (ht : ∀ i : Int, lo ≤ i → i < k → ∀ D acc, H D = none → EvT t ((wipe σ vs).set n (some (.int i))) (upd H D (.lst acc)) (p i)) (he : ∀ i : Int, lo ≤ i → i < k → p i = true → ∀ D acc, H D = none → Ev te ((wipe σ vs).set n (some (.int i))) (upd H D (.lst acc)) (f i)) :
    EvL (tLc (iRng2 ta) (gName n) t te vs) σ H ((((List.range (k - lo).toNat).map fun (i : Nat) => lo + (i : Int)).filter p).map f) := fun Q q => h _ ⟨lo, k, rfl, ⟨hk.1, hk.2.1, hk.2.2.1, hk.2.2.2.1⟩, fun D hD =>
  lc_range (lo := lo) (n := (k - lo).toNat) (fun i H' => H' = upd H D (.lst ((((List.range i).map fun (i : Nat) => lo + (i : Int)).filter p).map f))) (by simp) (fun i H' hi e => by
    subst e
    refine ⟨hw _, ht (lo + i) (by omega) (by omega) D _ hD _ ?_⟩
    rw [List.range_succ, List.map_append, List.filter_append, List.map_append]
    have hlen : ((((List.range i).map fun (i : Nat) => lo + (i : Int)).filter p).map f).length < sizeLine := by
      rw [List.length_map]
      refine Nat.lt_of_le_of_lt (List.length_filter_le _ _) ?_
      rw [List.length_map, List.length_range]
      exact szl (by omega)
    cases hp : p (lo + (i : Int)) with
    | true =>
      refine iteT (he (lo + i) (by omega) (by omega) hp D _ hD _ ⟨_, upd_same, hlen, ?_⟩)
      rw [upd_upd]
      congr 2
      simp [hp]
    | false =>
      refine iteF ?_
      congr 2
      simp [hp]) (fun H' e => by subst e; exact q D hD)⟩
/-- the numbers from 1 to b with a property -/
theorem filt_range (b : Nat) (P : Nat → Bool) (p : Int → Bool) (hp : ∀ x : Nat, p (x : Int) = P x) : ((((List.range (((b : Int) + 1) - 1).toNat).map fun (i : Nat) => (1 : Int) + (i : Int)).filter p).map fun i => V.int i) = zv (((List.range b).map (1 + ·)).filter P) := by
  rw [show (((b : Int) + 1) - 1).toNat = b by omega]
  generalize List.range b = l
  induction l with
  | nil => rfl
  | cons a l ih =>
    simp only [List.map_cons, List.filter_cons] at ih ⊢
    rw [show (1 : Int) + (a : Int) = ((1 + a : Nat) : Int) by omega, hp]
    by_cases h : P (1 + a) = true
    · rw [if_pos h, if_pos h, List.map_cons, ih]; rfl
    · rw [if_neg h, if_neg h, ih]
theorem range_pair (b : Nat) (P : Nat → Bool) : (((List.range b).map (1 + ·)).filter P).Pairwise (· < ·) := (List.pairwise_map.mpr (List.pairwise_lt_range.imp fun h => by omega)).sublist List.filter_sublist
theorem range_mem {b x : Nat} {P : Nat → Bool} : x ∈ ((List.range b).map (1 + ·)).filter P ↔ (0 < x ∧ x ≤ b) ∧ P x = true := by
  rw [List.mem_filter, List.mem_map]
  constructor
  · rintro ⟨⟨i, hi, rfl⟩, h⟩
    have := List.mem_range.mp hi
    exact ⟨by omega, h⟩
  · rintro ⟨h1, h2⟩
    exact ⟨⟨x - 1, List.mem_range.mpr (by omega), by omega⟩, h2⟩
end
/-- for k, cell in _law_cells(script, m), where one list (at ph, made ahead) is changed in the turns -/
theorem for_cellsG {K : PySem.W.Frag} {σ : L2.St} {H : Hp} {D : Ends} {tu s2 : TS} {ta : TA} {n1 n2 : Nat} {a ph : Addr} {u0 : HO} {ns : List Int} {m : Nat} [nd : Nod H] (h : EvA ta σ H [.ref a, .int (m : Int)]) (ha : SqL K H a (ns.map V.int)) (hl : ns.length ≤ 63) (hph : H ph = some u0) (I : Nat → L2.St → Hp → Prop) (h0 : ∀ H1, Ex H H1 → Nod H1 → I 0 σ H1)
    (hs : ∀ (C : Hp → Prop), (∀ H2 H3, C H2 → Ex (del H2 ph) H3 → C H3) → ∀ (i : Nat) (c : Int) σ' H', i < 63 → I i σ' H' → C H' → Nod H' → tu { D with nx := fun σ2 H2 => I (i + 1) σ2 H2 ∧ C H2 ∧ Nod H2, ct := fun σ2 H2 => I (i + 1) σ2 H2 ∧ C H2 ∧ Nod H2, bk := s2 D } ((σ'.set n1 (some (.int (i : Int)))).set n2 (some (.int c))) H')
    (hd : ∀ i σ' H', I i σ' H' → Nod H' → s2 D σ' H') : tSeq (tFor (iList K (tCall (sp_law_cells K) [] E0 ta)) (gTup K 2 (gCons (gName n1) (gCons (gName n2) gNil))) tu) s2 D σ H := by
  refine q_seq (w_forL (w_call h ⟨nd, a, ns, m, rfl, ha, hl, fun l as cs H1 hc e1 n1' C hnew => ⟨l, rfl, ⟨_, sq_at C.lst⟩, ?_⟩⟩))
  have keep : ∀ H2 H3, Cells H2 l as cs → Ex (del H2 ph) H3 → Cells H3 l as cs := fun H2 H3 c e => ⟨e _ _ (by rw [del_ne (hnew ph u0 hph).1]; exact c.lst), c.len, fun i b x h1 h2 => e _ _ (by
    have hb : b ≠ ph := fun z => (hnew ph u0 hph).2 (by rw [← z]; exact List.mem_of_getElem? h1)
    rw [del_ne hb]; exact c.tup i b x h1 h2)⟩
  refine lp_list (xs := as.map V.ref) (fun i σ' H' => I i σ' H' ∧ Cells H' l as cs ∧ Nod H') ⟨h0 H1 e1 n1', C, n1'⟩ (fun i σ' H' _ hv => sq_at hv.2.1.lst) (fun i x σ' H' hi hv => ?_) (fun σ' H' hv => hd _ σ' H' hv.1 hv.2.2)
  rw [List.getElem?_map] at hi
  cases e : as[i]? with
  | none => rw [e] at hi; cases hi
  | some b =>
    rw [e] at hi
    cases hi
    have hlt : i < cs.length := by rw [← C.len]; exact (List.getElem?_eq_some_iff.mp e).1
    have hx := List.getElem?_eq_getElem hlt
    refine ⟨b, _, rfl, st_at (hv.2.1.tup i b _ e hx), rfl, _, _, rfl, _, _, rfl, rfl, ?_⟩
    exact hs (fun H => Cells H l as cs) keep i cs[i] σ' H' (by omega) hv.1 hv.2.1 hv.2.2
theorem Own.tupF {B H : Hp} {L : List (Addr × List V)} {t : Addr} {xs : List V} (o : Own B L H) (ht : H t = none) : Own (upd B t (.tup xs)) L (upd H t (.tup xs)) where
  nod := have := o.nod; inferInstance
  ex := fun b u hb => by
    by_cases h : b = t
    · subst h; rw [upd_same] at hb ⊢; exact hb
    · rw [upd_ne h] at hb ⊢; exact o.ex b u hb
  off := fun q hq => by rw [upd_ne (ne_of_none (o.has q hq) ht)]; exact o.off q hq
  dis := o.dis
  has := fun q hq => by rw [upd_ne (ne_of_none (o.has q hq) ht)]; exact o.has q hq
theorem w_tup {σ : L2.St} {H : Hp} {t : TA} {Q : VK} (h : t σ H fun xs H1 => xs.length ≤ sizeLine ∧ ∀ p, H1 p = none → Q (.ref p) (upd H1 p (.tup xs))) : tTup t σ H Q := h
/-- neighbours([..], b) -/
theorem w_nbL {K : PySem.W.Frag} {σ : L2.St} {H : Hp} {ta : TA} {tb : TE} {row : List Nat} {b : Nat} {Q : VK} [nd : Nod H] (hl : EvA ta σ H (zv row)) (hb : ∀ H1, Ev tb σ H1 (.int (b : Int))) (w : Rw row) (hne : row ≠ []) (hb9 : b ≤ 10 ^ 9) (k : ∀ p1 p2, H p1 = none → upd H p1 (.lst (zv row)) p2 = none → Q (.ref p2) (upd (upd H p1 (.lst (zv row))) p2 (.lst (zv (nb row b))))) :
    tCall (sp_neighbours K) [] E0 (tCons (tLst ta) (tCons tb tNil)) σ H Q :=
  w_callW (w_cons (w_evL (el_lst hl (by rw [zv_len]; have := w.le; omega)) fun p hp => w_one (w_ev (hb _) ⟨inferInstance, p, row, b, rfl, ⟨upd_same, w, hne⟩, hb9, fun p2 hp2 => k p p2 hp hp2⟩)))
end Px
set_option Elab.async false
set_option linter.all false
set_option maxRecDepth 100000
set_option maxHeartbeats 4000000
namespace Px
open PySem L2 MA
local macro_rules | `(tactic| bv_omega) => `(tactic| first | assumption | omega | exact cm (by omega) | exact cd (by omega) | exact cp (by omega) | exact trivial)
local macro_rules | `(tactic| array_get_dec) => `(tactic| first
  | assumption
  | exact sq_up
  | exact Own.sqi (by assumption) 0 (by rfl)
  | exact Own.sqi (by assumption) 1 (by rfl)
  | exact Own.sqi (by assumption) 2 (by rfl)
  | exact Own.sqi (by assumption) 3 (by rfl)
  | exact Own.sqi (by assumption) 4 (by rfl)
  | exact Own.sq (by assumption) (by assumption)
  | exact sq_new (by assumption) (by assumption))
local macro_rules | `(tactic| clean_wf) => `(tactic| first
  | with_reducible exact ev_c
  | (with_reducible apply ev_v') <;> rfl
  | (with_reducible apply ev_add) <;> clean_wf
  | (with_reducible apply ev_sub) <;> clean_wf
  | (with_reducible apply ev_mul) <;> clean_wf
  | (with_reducible apply ev_mod) <;> clean_wf
  | (with_reducible apply ev_div) <;> clean_wf
  | (with_reducible apply ev_pow) <;> clean_wf
  | (with_reducible apply ev_neg) <;> clean_wf
  | (with_reducible apply ev_lt) <;> clean_wf
  | (with_reducible apply ev_le) <;> clean_wf
  | (with_reducible apply ev_gt) <;> clean_wf
  | (with_reducible apply ev_ge) <;> clean_wf
  | (with_reducible apply ev_eqi) <;> clean_wf
  | (with_reducible apply ev_nei) <;> clean_wf
  | (with_reducible apply ev_len) <;> clean_wf
  | (with_reducible apply ev_ixL) <;> clean_wf
  | (with_reducible apply ev_min) <;> clean_wf
  | (with_reducible apply ev_max) <;> clean_wf
  | (with_reducible apply ev_abs) <;> clean_wf
  | (with_reducible apply ev_intB) <;> clean_wf
  | (with_reducible apply ea_1) <;> clean_wf
  | (with_reducible apply ea_2) <;> clean_wf
  | (with_reducible apply ea_3) <;> clean_wf
  | with_reducible exact ea_nil
  | (with_reducible apply ea_cons) <;> clean_wf
  | with_reducible exact el_nil
  | (with_reducible apply ep_lt) <;> clean_wf
  | (with_reducible apply ep_le) <;> clean_wf
  | (with_reducible apply ep_gt) <;> clean_wf
  | (with_reducible apply ep_ge) <;> clean_wf
  | (with_reducible apply ep_eqi) <;> clean_wf
  | (with_reducible apply ep_nei) <;> clean_wf
  | (with_reducible apply ep_not) <;> clean_wf
  | ((with_reducible apply ep_and) <;> first | (intro _; clean_wf; done) | clean_wf)
  | ((with_reducible apply ep_or) <;> first | (intro _; clean_wf; done) | clean_wf)
  | (with_reducible apply et_t) <;> clean_wf
  | (with_reducible apply eo_is) <;> clean_wf
  | with_reducible exact eo_no
  | array_get_dec
  | bv_omega
  | rfl
  | skip)
local macro_rules | `(tactic| symm_saturate) => `(tactic| first
  | ((with_reducible apply q_set); (focus (clean_wf; done)))
  | ((with_reducible apply s_set); (focus (clean_wf; done)))
  | ((with_reducible apply q_aug (hx := rfl)); (focus (clean_wf; done)))
  | ((with_reducible apply s_aug (hx := rfl)); (focus (clean_wf; done)))
  | ((with_reducible apply q_augC (hx := rfl)); (focus (clean_wf; done)))
  | ((with_reducible apply s_augC (hx := rfl)); (focus (clean_wf; done))))
local macro_rules | `(tactic| subst_eqs) => `(tactic| repeat' (first
  | with_reducible apply w_c
  | ((with_reducible apply w_v'); (focus rfl))
  | with_reducible apply w_op
  | with_reducible apply w_cb
  | with_reducible apply w_cons
  | with_reducible apply w_nil
  | with_reducible apply r_add
  | with_reducible apply r_sub
  | ((with_reducible apply r_mul); (focus (bv_omega; done)))
  | ((with_reducible apply r_div); (focus (bv_omega; done)))
  | ((with_reducible apply r_mod); (focus (bv_omega; done)))
  | ((with_reducible apply r_pow); (focus (bv_omega; done)))
  | with_reducible apply r_lt
  | with_reducible apply r_le
  | with_reducible apply r_gt
  | with_reducible apply r_ge
  | with_reducible apply r_min
  | with_reducible apply r_max
  | with_reducible apply r_intB
  | ((with_reducible apply r_len); (focus (array_get_dec; done)))
  | with_reducible apply w_callW
  | with_reducible apply q_setW
  | with_reducible apply s_setW
  | with_reducible apply s_retW))

/-! ### what is due -/
def sp_law_due (K : PySem.W.Frag) : Sp := fun vs H Q _ => Nod H ∧ ∃ (a : Addr) (row : List Nat) (b : Nat), vs = [.ref a, .int (b : Int)] ∧ SqL K H a (zv row) ∧ Rw row ∧ b ≤ 10 ^ 9 ∧
  ∀ (p : Addr), H p = none → Q (.ref p) (upd H p (.lst (zv (nb row b))))
/-- slots: row bound made one other number -/
abbrev n_law_due : List Str := ["row", "bound", "made", "one", "other", "number"]
def t_law_due (K : PySem.W.Frag) : TS := (sFg (tSeq (tIfS (tTest (tOp oLe (tVar 1) (tC (.int 3000)))) (tRet (tLc (iRng2 (tCons (tC (.int 1)) (tCons (tOp oAdd (tVar 1) (tC (.int 1))) tNil))) (gName 5) (tAnd (tB (tCall (sp_law_is K) [] E0 (tCons (tVar 0) (tCons (tVar 5) tNil)))) (tB (tCall (sp_law_is K) [] E0 (tCons (tVar 0) (tCons (tOp oAdd (tVar 5) (tC (.int 1))) tNil))))) (tVar 5) [5])) tNext)
  (tSeq (tAsg (tCall (sp_law_made K) [] E0 (tCons (tVar 0) (tCons (tOp oAdd (tVar 1) (tC (.int 1))) tNil))) (gName 2))
  (tRet (tFg (tLc (iZip K (tCons (tVar 2) (tCons (tSl (rSlL K) (tVar 2) (tPart (tC (.int 1))) tNoPart) tNil))) (gTup K 2 (gCons (gName 3) (gCons (gName 4) gNil))) (tAnd (tTest (tOp rEq (tOp oSub (tVar 4) (tVar 3)) (tC (.int 1)))) (tTest (tOp oLe (tVar 3) (tVar 1)))) (tVar 3) [3, 4]))))))
def adjF (l : List Nat) (b i : Nat) : List Nat := (((l.zip (l.drop 1)).take i).filter fun q => decide (q.2 = q.1 + 1) && decide (q.1 ≤ b)).map (·.1)
theorem adjF_yes {l : List Nat} {b i x y : Nat} (h1 : l[i]? = some x) (h2 : (l.drop 1)[i]? = some y) (h : y = x + 1 ∧ x ≤ b) : adjF l b (i + 1) = adjF l b i ++ [x] := by
  unfold adjF
  rw [List.take_add_one, (List.getElem?_zip_eq_some (z := (x, y))).mpr ⟨h1, h2⟩]
  simp [h]
theorem adjF_no {l : List Nat} {b i x y : Nat} (h1 : l[i]? = some x) (h2 : (l.drop 1)[i]? = some y) (h : ¬ (y = x + 1 ∧ x ≤ b)) : adjF l b (i + 1) = adjF l b i := by
  unfold adjF
  rw [List.take_add_one, (List.getElem?_zip_eq_some (z := (x, y))).mpr ⟨h1, h2⟩]
  simp only [Option.toList_some, List.filter_append, List.map_append, List.filter_cons, List.filter_nil]
  rw [if_neg (by simpa using h)]
  simp
theorem adjF_end {l : List Nat} {b i : Nat} (h : i = min l.length (l.drop 1).length) : adjF l b i = (adj l).filter fun x => decide (x ≤ b) := by
  unfold adjF
  rw [List.take_of_length_le (by rw [List.length_zip]; omega), ← adj_zip, List.filter_map, List.filter_filter]
  congr 2
  funext q
  simp [Bool.and_comm]
theorem adjF_len {l : List Nat} {b i : Nat} : (adjF l b i).length ≤ l.length := by
  unfold adjF
  rw [List.length_map]
  refine Nat.le_trans (List.length_filter_le _ _) ?_
  rw [List.length_take, List.length_zip]
  omega
open Classical in
theorem nb_range {row : List Nat} {b : Nat} (g : ∀ p ∈ row, 2 ≤ p) : (((List.range b).map (1 + ·)).filter fun x => decide (Mk row x) && decide (Mk row (x + 1))) = nb row b := nb_eq (range_pair b _) fun x => by
  rw [range_mem, Bool.and_eq_true, decide_eq_true_eq, decide_eq_true_eq]
  constructor
  · rintro ⟨⟨h1, h2⟩, h3, h4⟩; exact ⟨⟨h3, h2⟩, h4⟩
  · rintro ⟨⟨h1, h2⟩, h3⟩; exact ⟨⟨mk_pos g h1, h2⟩, h1, h3⟩
open Classical in
theorem r_law_due {K : PySem.W.Frag} {vs : List V} {H : Hp} {Q : VK} {E : XK} (h : sp_law_due K vs H Q E) : t_law_due K { nx := fun _ H' => Q .non H', rt := Q } (start n_law_due vs) H := by
  obtain ⟨nd, a, row, b, rfl, sa, w, hb, q⟩ := h
  have f : Fits row (b + 1) := .inr (.inr (by omega))
  have hfit := w.fit f
  refine fg_body (q_whenP (by clean_wf) (fun hc => ?_) fun hc => ?_)
  · refine s_retL (xs := zv (nb row b)) ?_ fun p hp => ⟨_, fg_newL hp (ex_new hp) upd_same, q p hp⟩
    rw [← nb_range w.good.ge, ← filt_range b (fun x => decide (Mk row x) && decide (Mk row (x + 1))) (fun i : Int => decide (Mk row i.toNat) && decide (Mk row (i.toNat + 1))) (fun x => rfl)]
    refine el_lcR2 (lo := 1) (k := (b : Int) + 1) _ _ (ea_2 ev_c (ev_add (ev_v 1) ev_c)) (by omega) (fun _ => rfl) (fun i h0 h1 D acc hD => ?_) fun i h0 h1 _ D acc hD => ev_v 5
    obtain ⟨x, rfl⟩ : ∃ x : Nat, i = (x : Int) := ⟨i.toNat, by omega⟩
    refine et_and (et_b (ev_call (ea_2 (ev_v 0) (ev_v 5)) fun Q q => ⟨inferInstance, a, row, x, rfl, sq_new hD sa, w, by omega, q⟩)) fun _ => et_b (ev_call (ea_2 (ev_v 0) (ev_eq (y := .int ((x + 1 : Nat) : Int)) (ev_add (i := (x : Int)) (ev_v 5) ev_c) rfl)) fun Q q => ⟨inferInstance, a, row, x + 1, rfl, sq_new hD sa, w, by omega, q⟩)
  · refine q_setL (el_call (ea_2 (ev_v 0) (ev_eq (y := .int ((b + 1 : Nat) : Int)) (ev_add (i := (b : Int)) (ev_v 1) ev_c) rfl)) fun Q q => ⟨nd, a, row, b + 1, rfl, sa, w, f, by omega, q⟩) fun pf hpf => ?_
    have o : Own H [(pf, zv (allL row (b + 1)))] (upd H pf (.lst (zv (allL row (b + 1))))) := Own.nil.new hpf
    have hll : (allL row (b + 1)).length ≤ 9000000 := hfit
    have hend : (adj (allL row (b + 1))).filter (fun x => decide (x ≤ b)) = nb row b := nb_adj
    generalize allL row (b + 1) = l at o hll hend
    have no := o.nod
    generalize upd H pf (.lst (zv l)) = H1 at o no
    refine s_retW (w_fg (w_lcZ (w_cons (w_v 2 (w_one (w_evL (el_sl (ev_v 2) (eo_is ev_c) eo_no (o.sqi 0 rfl)) fun p1 hp1 => ?_))))))
    rw [show (1 : Int) = ((1 : Nat) : Int) from rfl, cut_fromN]
    have o2 := o.new (xs := zv (l.drop 1)) hp1
    refine ⟨pf, p1, zv l, zv (l.drop 1), rfl, o2.sqi 1 rfl, o2.sqi 0 rfl, lcat_zip (fun D i H' => Own H1 [(D, zv (adjF l b i)), (p1, zv (l.drop 1))] H') (fun D hD => ?_) (fun D i H' hD o' => ⟨sq_at (o'.ex _ _ (o.atI 0 rfl)), o'.sqi 1 rfl⟩) (fun x y => rfl) (fun D i x y Tp H' hD hx hy o' hTp => ?_) fun D H' hD o' => ?_⟩
    · exact ((Own.nil (H := H1)).new hp1).new hD
    · obtain ⟨x, hx2, rfl⟩ := zv_some hx
      obtain ⟨y, hy2, rfl⟩ := zv_some hy
      have o3 := o'.tup (xs := [V.int (x : Int), .int (y : Int)]) hTp
      refine ep_and (ep_eqi (i := (y : Int) - (x : Int)) (j := 1) (ev_sub (ev_v 4) (ev_v 3)) ev_c) (fun _ => ep_le (i := (x : Int)) (j := (b : Int)) (ev_v 3) (ev_v 1)) _ (fun he => iteT (w_v 3 ⟨_, o3.atI 0 rfl, ?_, ?_⟩)) (fun he => iteF ?_)
      · rw [zv_len]; exact szl (Nat.lt_of_le_of_lt adjF_len (by omega))
      · rw [adjF_yes hx2 hy2 (by omega), ← zv_one]
        exact o3.mut 0 rfl
      · rw [adjF_no hx2 hy2 (by omega)]
        exact o3
    · rw [zv_len, zv_len, adjF_end rfl, hend] at o'
      refine ⟨upd H1 D (.lst (zv (nb row b))), fg_newL (o'.offI 0 rfl) o'.ex (o'.atI 0 rfl), _, ?_, q D (ex_none o.ex (o'.offI 0 rfl))⟩
      exact fg_newL (ex_none o.ex (o'.offI 0 rfl)) (ex_upd (ex_none o.ex (o'.offI 0 rfl)) o.ex) upd_same
end Px
set_option Elab.async false
set_option linter.all false
set_option maxRecDepth 100000
set_option maxHeartbeats 4000000
namespace Px
open PySem L2 MA
local macro_rules | `(tactic| bv_omega) => `(tactic| first | assumption | omega | exact cm (by omega) | exact cd (by omega) | exact cp (by omega) | exact trivial)
local macro_rules | `(tactic| array_get_dec) => `(tactic| first
  | assumption
  | exact sq_up
  | exact Own.sqi (by assumption) 0 (by rfl)
  | exact Own.sqi (by assumption) 1 (by rfl)
  | exact Own.sqi (by assumption) 2 (by rfl)
  | exact Own.sqi (by assumption) 3 (by rfl)
  | exact Own.sqi (by assumption) 4 (by rfl)
  | exact Own.sq (by assumption) (by assumption)
  | exact sq_new (by assumption) (by assumption))
local macro_rules | `(tactic| clean_wf) => `(tactic| first
  | with_reducible exact ev_c
  | (with_reducible apply ev_v') <;> rfl
  | (with_reducible apply ev_add) <;> clean_wf
  | (with_reducible apply ev_sub) <;> clean_wf
  | (with_reducible apply ev_mul) <;> clean_wf
  | (with_reducible apply ev_mod) <;> clean_wf
  | (with_reducible apply ev_div) <;> clean_wf
  | (with_reducible apply ev_pow) <;> clean_wf
  | (with_reducible apply ev_neg) <;> clean_wf
  | (with_reducible apply ev_lt) <;> clean_wf
  | (with_reducible apply ev_le) <;> clean_wf
  | (with_reducible apply ev_gt) <;> clean_wf
  | (with_reducible apply ev_ge) <;> clean_wf
  | (with_reducible apply ev_eqi) <;> clean_wf
  | (with_reducible apply ev_nei) <;> clean_wf
  | (with_reducible apply ev_len) <;> clean_wf
  | (with_reducible apply ev_ixL) <;> clean_wf
  | (with_reducible apply ev_min) <;> clean_wf
  | (with_reducible apply ev_max) <;> clean_wf
  | (with_reducible apply ev_abs) <;> clean_wf
  | (with_reducible apply ev_intB) <;> clean_wf
  | (with_reducible apply ea_1) <;> clean_wf
  | (with_reducible apply ea_2) <;> clean_wf
  | (with_reducible apply ea_3) <;> clean_wf
  | with_reducible exact ea_nil
  | (with_reducible apply ea_cons) <;> clean_wf
  | with_reducible exact el_nil
  | (with_reducible apply ep_lt) <;> clean_wf
  | (with_reducible apply ep_le) <;> clean_wf
  | (with_reducible apply ep_gt) <;> clean_wf
  | (with_reducible apply ep_ge) <;> clean_wf
  | (with_reducible apply ep_eqi) <;> clean_wf
  | (with_reducible apply ep_nei) <;> clean_wf
  | (with_reducible apply ep_not) <;> clean_wf
  | ((with_reducible apply ep_and) <;> first | (intro _; clean_wf; done) | clean_wf)
  | ((with_reducible apply ep_or) <;> first | (intro _; clean_wf; done) | clean_wf)
  | (with_reducible apply et_t) <;> clean_wf
  | (with_reducible apply eo_is) <;> clean_wf
  | with_reducible exact eo_no
  | array_get_dec
  | bv_omega
  | rfl
  | skip)
local macro_rules | `(tactic| symm_saturate) => `(tactic| first
  | ((with_reducible apply q_set); (focus (clean_wf; done)))
  | ((with_reducible apply s_set); (focus (clean_wf; done)))
  | ((with_reducible apply q_aug (hx := rfl)); (focus (clean_wf; done)))
  | ((with_reducible apply s_aug (hx := rfl)); (focus (clean_wf; done)))
  | ((with_reducible apply q_augC (hx := rfl)); (focus (clean_wf; done)))
  | ((with_reducible apply s_augC (hx := rfl)); (focus (clean_wf; done))))
local macro_rules | `(tactic| subst_eqs) => `(tactic| repeat' (first
  | with_reducible apply w_c
  | ((with_reducible apply w_v'); (focus rfl))
  | with_reducible apply w_op
  | with_reducible apply w_cb
  | with_reducible apply w_cons
  | with_reducible apply w_nil
  | with_reducible apply r_add
  | with_reducible apply r_sub
  | ((with_reducible apply r_mul); (focus (bv_omega; done)))
  | ((with_reducible apply r_div); (focus (bv_omega; done)))
  | ((with_reducible apply r_mod); (focus (bv_omega; done)))
  | ((with_reducible apply r_pow); (focus (bv_omega; done)))
  | with_reducible apply r_lt
  | with_reducible apply r_le
  | with_reducible apply r_gt
  | with_reducible apply r_ge
  | with_reducible apply r_min
  | with_reducible apply r_max
  | with_reducible apply r_intB
  | ((with_reducible apply r_len); (focus (array_get_dec; done)))
  | with_reducible apply w_callW
  | with_reducible apply q_setW
  | with_reducible apply s_setW
  | with_reducible apply s_retW))

noncomputable def lastNb (row : List Nat) (b : Nat) : V := match (nb row b).getLast? with
  | some x => .int (x : Int)
  | none => .non
def sp_last_neighbour (K : PySem.W.Frag) : Sp := fun vs H Q _ => Nod H ∧ ∃ (a : Addr) (row : List Nat) (b : Nat), vs = [.ref a, .int (b : Int)] ∧ RowAt H a row ∧ b ≤ 10 ^ 9 ∧ Q (lastNb row b) H
/-- slots: row bound found -/
abbrev n_last_neighbour : List Str := ["row", "bound", "found"]
def t_last_neighbour (K : PySem.W.Frag) : TS := (sFg (tSeq (tAsg (tCall (sp_neighbours K) [] E0 (tCons (tVar 0) (tCons (tVar 1) tNil))) (gName 2))
  (tSeq (tIfS (bFg (tTest (tOp (rEqD K) (tVar 2) (tLst tNil)))) (tRet (tC .non)) tNext)
  (tRet (tOp (rIxL K) (tVar 2) (tUn uNeg (tC (.int 1))))))))
theorem zv_lastN {l : List Nat} {p : Nat} (h : l.getLast? = some p) : atI (zv l) (-1) = some (.int (p : Int)) := by
  obtain ⟨ys, rfl⟩ := List.getLast?_eq_some_iff.mp h
  rw [zv_app]
  exact atI_last _ _
theorem r_last_neighbour {K : PySem.W.Frag} {vs : List V} {H : Hp} {Q : VK} {E : XK} (h : sp_last_neighbour K vs H Q E) : t_last_neighbour K { nx := fun _ H' => Q .non H', rt := Q } (start n_last_neighbour vs) H := by
  obtain ⟨nd, a, row, b, rfl, r, hb, q⟩ := h
  unfold lastNb at q
  refine fg_body (q_setL (e_nb r hb (ev_v 0) (ev_v 1)) fun p hp => q_when (et_isnil (ns := zl (nb row b)) sq_up (ev_v 2)) (fun hc => ?_) fun hc => ?_)
  · have e : nb row b = [] := by simpa using hc
    rw [e] at q
    exact s_ret ev_c ⟨H, fg_same (ex_new hp), q⟩
  · have e : nb row b ≠ [] := fun z => by rw [z] at hc; simp at hc
    have hl := List.getLast?_eq_some_getLast e
    rw [hl] at q
    exact s_ret (ev_ixL (ev_v 2) (ev_neg ev_c) sq_up (zv_lastN hl)) ⟨H, fg_same (ex_new hp), q⟩
def sp_many_neighbours (K : PySem.W.Frag) : Sp := fun vs H Q _ => Nod H ∧ ∃ (a : Addr) (row : List Nat) (b : Nat), vs = [.ref a, .int (b : Int)] ∧ RowAt H a row ∧ b ≤ 10 ^ 9 ∧ Q (.int ((nb row b).length : Int)) H
/-- slots: row bound -/
abbrev n_many_neighbours : List Str := ["row", "bound"]
def t_many_neighbours (K : PySem.W.Frag) : TS := (sFg (tRet (tFg (tCB (cLen K) (tCons (tCall (sp_neighbours K) [] E0 (tCons (tVar 0) (tCons (tVar 1) tNil))) tNil)))))
theorem r_many_neighbours {K : PySem.W.Frag} {vs : List V} {H : Hp} {Q : VK} {E : XK} (h : sp_many_neighbours K vs H Q E) : t_many_neighbours K { nx := fun _ H' => Q .non H', rt := Q } (start n_many_neighbours vs) H := by
  obtain ⟨nd, a, row, b, rfl, r, hb, q⟩ := h
  refine fg_body (s_ret (v := .int ((nb row b).length : Int)) (ev_fg fun Q q => w_cb (w_one (w_evL (e_nb r hb (ev_v 0) (ev_v 1)) fun p hp => r_len sq_up ?_))) ⟨H, fg_same ex_refl, q⟩)
  rw [zv_len]
  exact q _ (ex_new hp)
end Px
set_option linter.all false
set_option maxHeartbeats 1000000
namespace MA
/-! ### products of so many -/
inductive Mp (row : List Nat) : Nat → Nat → Prop
  | one : Mp row 0 1
  | mul {p m n : Nat} : p ∈ row → Mp row m n → Mp row (m + 1) (p * n)
theorem mp_mk {row : List Nat} {m n : Nat} (h : Mp row m n) : Mk row n := by
  induction h with
  | one => exact .one
  | mul hp _ ih => exact .mul hp ih
theorem mp_mono {r r' : List Nat} (h : ∀ p ∈ r, p ∈ r') {m n : Nat} (q : Mp r m n) : Mp r' m n := by
  induction q with
  | one => exact .one
  | mul hp _ ih => exact .mul (h _ hp) ih
theorem mp_zero {row : List Nat} {n : Nat} (h : Mp row 0 n) : n = 1 := by cases h; rfl
theorem mp_succ {row : List Nat} {m n : Nat} : Mp row (m + 1) n ↔ ∃ p ∈ row, ∃ k, n = k * p ∧ Mp row m k := by
  constructor
  · intro h
    cases h with
    | mul hp q => exact ⟨_, hp, _, Nat.mul_comm _ _, q⟩
  · rintro ⟨p, hp, k, rfl, q⟩
    rw [Nat.mul_comm]
    exact .mul hp q
theorem mp_pow {row : List Nat} {p : Nat} (hp : p ∈ row) : ∀ m, Mp row m (p ^ m)
  | 0 => .one
  | m + 1 => by rw [Nat.pow_succ, Nat.mul_comm]; exact .mul hp (mp_pow hp m)
theorem mp_times {row : List Nat} {a b x y : Nat} (h : Mp row a x) (g : Mp row b y) : Mp row (a + b) (x * y) := by
  induction h with
  | one => rw [Nat.one_mul, Nat.zero_add]; exact g
  | mul hp _ ih => rw [Nat.mul_assoc, Nat.add_right_comm]; exact .mul hp ih
theorem mp_ge {row : List Nat} {p m n : Nat} (hp : ∀ q ∈ row, p ≤ q) (h : Mp row m n) : p ^ m ≤ n := by
  induction h with
  | one => exact Nat.le_refl 1
  | mul hq _ ih => rw [Nat.pow_succ, Nat.mul_comm]; exact Nat.mul_le_mul (hp _ hq) ih
theorem mp_le {row : List Nat} {p m n : Nat} (hp : ∀ q ∈ row, q ≤ p) (h : Mp row m n) : n ≤ p ^ m := by
  induction h with
  | one => exact Nat.le_refl 1
  | mul hq _ ih => rw [Nat.pow_succ, Nat.mul_comm]; exact Nat.mul_le_mul ih (hp _ hq) |> fun z => by rw [Nat.mul_comm, Nat.mul_comm (_ ^ _)] at *; first | exact z | (rw [Nat.mul_comm]; exact z) | (rw [Nat.mul_comm] at z; exact z)
theorem mp_snoc {r : List Nat} {p m n : Nat} : Mp (r ++ [p]) m n ↔ ∃ t k, t ≤ m ∧ n = k * p ^ t ∧ Mp r (m - t) k := by
  constructor
  · intro h
    induction h with
    | one => exact ⟨0, 1, Nat.le_refl _, rfl, .one⟩
    | @mul q m n hq _ ih =>
      obtain ⟨t, k, ht, rfl, hk⟩ := ih
      rcases List.mem_append.mp hq with hq | hq
      · refine ⟨t, q * k, by omega, by rw [Nat.mul_assoc], ?_⟩
        rw [show m + 1 - t = (m - t) + 1 by omega]
        exact .mul hq hk
      · rw [List.mem_singleton.mp hq]
        refine ⟨t + 1, k, by omega, by rw [Nat.pow_succ]; simp only [Nat.mul_comm, Nat.mul_left_comm], ?_⟩
        rw [show m + 1 - (t + 1) = m - t by omega]
        exact hk
  · rintro ⟨t, k, ht, rfl, hk⟩
    have := mp_times (mp_mono (r' := r ++ [p]) (fun q hq => List.mem_append_left _ hq) hk) (mp_pow (row := r ++ [p]) (p := p) (by simp) t)
    rwa [show m - t + t = m by omega] at this
/-- the least product of so many that is at least a number -/
structure IsLp (row : List Nat) (m x n : Nat) : Prop where
  made : Mp row m n
  ge : x ≤ n
  le : ∀ k, Mp row m k → x ≤ k → n ≤ k
theorem IsLp.uniq {row : List Nat} {m x n n' : Nat} (h : IsLp row m x n) (h' : IsLp row m x n') : n = n' := Nat.le_antisymm (h.le _ h'.made h'.ge) (h'.le _ h.made h.ge)
open Classical in
noncomputable def lp (row : List Nat) (m x : Nat) : Option Nat := if h : ∃ n, IsLp row m x n then some (Classical.choose h) else none
theorem lp_some {row : List Nat} {m x n : Nat} (h : IsLp row m x n) : lp row m x = some n := by
  have h0 : ∃ n, IsLp row m x n := ⟨n, h⟩
  unfold lp
  rw [dif_pos h0]
  exact congrArg some ((Classical.choose_spec h0).uniq h)
theorem lp_is {row : List Nat} {m x n : Nat} (h : lp row m x = some n) : IsLp row m x n := by
  unfold lp at h
  split at h
  · rename_i h0
    rw [← Option.some.inj h]
    exact Classical.choose_spec h0
  · cases h
theorem lp_ex {row : List Nat} {m x k : Nat} (h : Mp row m k) (hx : x ≤ k) : ∃ n, IsLp row m x n := by
  obtain ⟨n, h1, h2⟩ := least_of (P := fun n => Mp row m n ∧ x ≤ n) ⟨h, hx⟩
  exact ⟨n, h1.1, h1.2, fun k hk hkx => h2 k ⟨hk, hkx⟩⟩
theorem lp_none {row : List Nat} {m x : Nat} (h : ∀ k, Mp row m k → k < x) : lp row m x = none := by
  cases e : lp row m x with
  | none => rfl
  | some n => have q := lp_is e; have := h n q.made; have := q.ge; omega
theorem lp_no {row : List Nat} {m x : Nat} (h : lp row m x = none) : ∀ k, Mp row m k → k < x := fun k hk => by
  apply Nat.lt_of_not_le
  intro hx
  obtain ⟨n, hn⟩ := lp_ex hk hx
  rw [lp_some hn] at h
  cases h
/-- one step of the search: the powers of the last prime -/
theorem ceil_le {x p k : Nat} (hp : 0 < p) : (x + p - 1) / p ≤ k ↔ x ≤ k * p := by
  rw [Nat.div_le_iff_le_mul_add_pred hp, Nat.mul_comm p k]
  omega
theorem lp_step {r : List Nat} {p m x n : Nat} (hp : 0 < p) (hn : ∃ t, t ≤ m ∧ ∃ k, lp r (m - t) ((x + p ^ t - 1) / p ^ t) = some k ∧ n = k * p ^ t)
    (hle : ∀ t, t ≤ m → ∀ k, lp r (m - t) ((x + p ^ t - 1) / p ^ t) = some k → n ≤ k * p ^ t) : IsLp (r ++ [p]) m x n := by
  obtain ⟨t, ht, k, hk, rfl⟩ := hn
  have q := lp_is hk
  refine ⟨mp_snoc.mpr ⟨t, k, ht, rfl, q.made⟩, (ceil_le (Nat.pow_pos hp)).mp q.ge, fun y hy hxy => ?_⟩
  obtain ⟨t', k', ht', rfl, hk'⟩ := mp_snoc.mp hy
  have hge := (ceil_le (k := k') (Nat.pow_pos hp)).mpr hxy
  obtain ⟨z, hz⟩ := lp_ex hk' hge
  exact Nat.le_trans (hle t' ht' z (lp_some hz)) (Nat.mul_le_mul_right _ (hz.le _ hk' hge))
end MA
set_option Elab.async false
set_option linter.all false
set_option maxRecDepth 100000
set_option maxHeartbeats 4000000
/-! sorted(set(xs)), xs a list of ints: after the kit's set of a tuple and its sorted set of few -/
namespace Px
open PySem PySem.Spec PyProof.Rows L2
section
variable {P : Program} {w : World} {A : Around} {E : Value → Shared → Prop} {s : Shared}
/-- the new empty set -/
abbrev eS (w : World) : Obj := { cls := .type "set", dict := none, data := .set #[] 0 (.fresh 0 0 (!w.params.followText "set-order")) }
theorem set_init {l : Addr} {items : Array Value} (ns : List Int) {R : Result → Shared → Prop} (hh : A.handled = none) (hl : s.heap.IsList l items) (hit : IntsAre items.toList ns) (hb : ns.length + 1 < scanBound)
    (h : ∀ (h' : Heap) (tk c : Nat), SetR w h' s.heap.objs.size (fun j => decide (j ∈ ns)) c → c ≤ ns.length → (∀ b o, s.heap.get? b = some o → h'.get? b = some o) → R (.ok (.ret .none)) { s with heap := h', toks := tk }) :
    wpAny (model P w) A.in1 (Builtin.«set.__init__» ⟨[.ref s.heap.objs.size, .ref l], []⟩)
      (fun fin s' => match fin with | .done f => R (.ok f) s' | .again c' => c'.quiet = true ∧ codeAny (model P w) A c' R s') (fun x s' => R (.error x) s') { s with heap := s.heap.push (eS w) } := by
  have hisz : items.size = ns.length := by
    have q := IntsAre.length hit
    rw [Array.length_toList] at q
    exact q
  have hS : (s.heap.push (eS w)).get? s.heap.objs.size = some (eS w) := Heap.get?_push_size _ rfl
  have hT : Shared.TypeIs { s with heap := s.heap.push (eS w) } (.ref s.heap.objs.size) "set" := ⟨_, hS, rfl⟩
  obtain ⟨ol, hol, hcl, nl, hdl⟩ := hl
  obtain ⟨ocls, odict, odata, oslots⟩ := ol
  simp only at hcl hdl
  subst hcl; subst hdl
  have hol' : (s.heap.push (eS w)).get? l = some { cls := .type "list", dict := odict, data := .seq items nl, slots := oslots } := Heap.get?_push_of_some _ hol
  have hsls := F.sub_list_set
  have hslf := F.sub_list_frozenset
  have hne : (Value.type "list" == Value.type "dict") = false := by decide
  have hl1 : (s.heap.push (eS w)).IsList l items := ⟨_, hol', rfl, nl, rfl⟩
  unfold Builtin.«set.__init__» noKeywords Builtin.Frozenset.updateFrom
  generalize hPI : pyIter = PI
  wp_walk
  subst hPI
  refine wpAny_pyIter_list hl1 ?_
  refine wpAny_bind (wpAny_runValue ?_)
  have hlS : l < s.heap.objs.size := Heap.lt_size hol
  have hz1 : (s.heap.push (eS w)).objs.size = s.heap.objs.size + 1 := Heap.size_push ..
  have hneI : l ≠ (s.heap.push (eS w)).objs.size := by rw [hz1]; exact Nat.ne_of_lt (Nat.lt_succ_of_lt hlS)
  have hSf : s.heap.objs.size ∉ [(s.heap.push (eS w)).objs.size, l] := by
    rw [hz1]; simp only [List.mem_cons, List.mem_singleton, List.not_mem_nil, or_false, not_or]
    exact ⟨Nat.ne_of_lt (Nat.lt_succ_self _), Nat.ne_of_gt hlS⟩
  have hval : ∀ (i : Nat) (v : Value), items[i]? = some v → ∃ k t, ns[i]? = some k ∧ v = .int k t := fun i v hv => by
    have hi : i < ns.length := by rw [← hisz]; exact (Array.getElem?_eq_some_iff.mp hv).1
    obtain ⟨t, e⟩ := PyProof.Rows.IntsAre.int_at hit i v (by rw [Array.getElem?_toList]; exact hv)
    refine ⟨ns[i], t, List.getElem?_eq_getElem hi, ?_⟩
    rw [e, List.getD_eq_getElem?_getD, List.getElem?_eq_getElem hi] <;> rfl
  refine set_update_ints ((Walks.list (A := A.in1.in1) hh _ l hneI items).toS) s.heap.objs.size hSf ns hisz hb hval (items.size - 0) 0 _ (by omega) (Nat.zero_le _) ⟨⟨_, Heap.get?_push_size _ rfl, rfl, rfl⟩, (hl1.push _)⟩ ⟨0, Nat.le_refl 0, setR_new_at (Heap.get?_push_of_some _ hS)⟩ ?_
  intro s' c' hm hc' hS'
  obtain ⟨h', g2, d', tk', os'⟩ := s'
  have eg : g2 = s.gens := hm.gens
  have ed : d' = s.drawn := hm.drawn
  have eo : os' = s.os := hm.os
  subst eg; subst ed; subst eo
  show wpAny _ _ _ _ _ _
  refine wpAny_pure ?_
  show wpAny _ _ (ret Value.none) _ _ _
  rw [hisz] at hc'
  refine wpAny_pure (h h' tk' c' hS' hc' fun b o e => ?_)
  have hb0 : b < s.heap.objs.size := Heap.lt_size e
  exact hm.heap b o (by simp only [List.mem_cons, List.mem_singleton, List.not_mem_nil, or_false, not_or]; exact ⟨Nat.ne_of_lt hb0, by rw [hz1]; exact Nat.ne_of_lt (Nat.lt_succ_of_lt hb0)⟩) (Heap.get?_push_of_some _ (Heap.get?_push_of_some _ e))
theorem set_list {l : Addr} {items : Array Value} (ns : List Int) {Q : Value → Shared → Prop} (hh : A.handled = none) (hl : s.heap.IsList l items) (hit : IntsAre items.toList ns) (hb : ns.length + 1 < scanBound)
    (h : ∀ (h' : Heap) (tk c : Nat), SetR w h' s.heap.objs.size (fun j => decide (j ∈ ns)) c → c ≤ ns.length → (∀ b o, s.heap.get? b = some o → h'.get? b = some o) → Q (.ref s.heap.objs.size) { s with heap := h', toks := tk }) :
    wpAny (model P w) A (call (.type "set") [.ref l]) Q E s := by
  obtain ⟨c, tl, hmro⟩ := F.called_set.mro
  have hmade := F.called_set.made
  have hsub := F.called_set.sub
  refine wpAny_call (codeAny_of_tree ?_)
  show wpAny _ _ (callAny (.type "set") _) _ _ _
  refine wpAny_pure ⟨Code.quiet_builtin _ (by decide +kernel), codeAny_builtin F.entry_type_call ?_⟩
  rw [Around.under_plain (weight_type_call_type "set" [.ref l] []) rfl]
  have h1 := F.called_set.notType
  have h2 := F.called_set.canCreate
  have hct := F.typeCall_set_1 (.ref l)
  repeat (any_goals (first | assumption | wp_step))
  refine codeAny_mono (code_set_led1 (.ref l) (E := E) (Q₁ := fun obj s₁ => obj = .ref s.heap.objs.size ∧ s₁ = { s with heap := s.heap.push (eS w) }) ⟨rfl, rfl⟩) fun r s₁ hr => ?_
  cases r with
  | error e => exact hr
  | ok fl =>
    cases fl with
    | ret obj =>
      obtain ⟨rfl, rfl⟩ := hr
      have hT : Shared.TypeIs { s with heap := s.heap.push (eS w) } (.ref s.heap.objs.size) "set" := ⟨_, Heap.get?_push_size _ rfl, rfl⟩
      have hli := F.called_set.init.lookup
      have hbi := F.called_set.init.bind (.ref s.heap.objs.size)
      repeat (any_goals (first | assumption | wp_step))
      refine codeAny_mono (codeAny_call_builtin (R := wants (fun r s₂ => r = .none ∧ ∃ h' tk c, s₂ = { s with heap := h', toks := tk } ∧ SetR w h' s.heap.objs.size (fun j => decide (j ∈ ns)) c ∧ c ≤ ns.length ∧
          (∀ b o, s.heap.get? b = some o → h'.get? b = some o)) E) F.called_set.init.plain F.entry_set_init (check_set_init_1 hT ?_)) fun r₂ s₂ hr₂ => ?_
      · exact set_init ns (by simp [hh]) hl hit hb fun h' tk c k1 k2 k3 => ⟨rfl, h', tk, c, rfl, k1, k2, k3⟩
      · cases r₂ with
        | error e => exact hr₂
        | ok fl₂ =>
          cases fl₂ with
          | ret r =>
            obtain ⟨rfl, h', tk, c', rfl, hS', hc', hk'⟩ := hr₂
            repeat (any_goals (first | assumption | wp_step))
            exact h _ _ _ hS' hc' hk'
          | _ => exact hr₂.elim
    | _ => exact hr.elim
theorem sorted_setO {a : Addr} {S : Int → Bool} {n : Nat} {Q : Value → Shared → Prop} (R : SetR w s.heap a S n) (hh : A.handled = none)
    (hQ : ∀ s' p (out : List Value) (c : Nat) (ns : List Int), (∀ b o, s.heap.get? b = some o → s'.heap.get? b = some o) → s'.gens = s.gens → s'.os = s.os → s.heap.objs.size ≤ p →
      s'.heap.get? p = some (seqObj "list" out.toArray c) → IntsAre out ns → ns.Pairwise (· < ·) → (∀ k, k ∈ ns ↔ S k = true) → ns.length = n → Q (.ref p) s') :
    wpAny (model P w) A (call (.builtin "sorted") [.ref a]) Q E s := by
  obtain ⟨o, es, ep, t, ho, hex, hd, g, nd, hm, hb, hf, hn, hr, hl⟩ := R
  refine Calls.call_function_entry kind_sorted plain_sorted entry_sorted (args_sorted1 _) ?_
  unfold Builtin.«sorted»
  refine wpAny_bind (m := checkCount "sorted" 1 1 _) (wpAny_pure ?_)
  refine wpAny_bind (collect_set (A := A.in1) hh ⟨o, ho, hex.1, hd⟩ hf hb hr hl fun s1 vs k1 hz g1 o1 pm => ?_)
  have hvl : vs.length = n := by rw [pm.length_eq, List.length_map, Array.length_toList]; exact hn
  have hvs : vs.length ≤ sizeLine := by rw [hvl, ← hn]; exact fits_of_scanBound hb
  have hI : IntsAre vs (vs.map Builtin.Re.reRawOf) := ints_of vs fun v hv => by
    obtain ⟨e, he, q⟩ := List.mem_map.mp (pm.mem_iff.mp hv)
    obtain ⟨k, tk, h1, _⟩ := g e he
    exact ⟨k, tk, by rw [← q]; exact h1⟩
  have pk : (vs.map Builtin.Re.reRawOf).Perm (es.toList.map keyOf) := by
    have q := pm.map Builtin.Re.reRawOf
    rw [List.map_map] at q
    exact q
  refine wpAny_bind (wpAny_newList ?_ hvs)
  have hoL : (s1.heap.push (seqObj "list" vs.toArray 0)).get? s1.heap.objs.size = some (seqObj "list" vs.toArray 0) := Heap.get?_push_size _ rfl
  refine wpAny_bind (wpAny_holding (wpAny_call_entry slot_list_sort ⟨_, hoL, rfl⟩ entry_list_sort (SrtO.list_sort_ord SrtO.swo_int hoL hvs (fun h2 => SrtO.ints_sortable hI h2) fun out b1 b2 => ⟨_, rfl, ?_⟩) (args_list_sort _)))
  obtain ⟨a1, a2, a3⟩ := SrtO.ints_out hI b1 b2
  obtain ⟨c, hc⟩ := sortedHeap_at (vs := vs) (out := out.toArray) hoL
  have pn : (out.map SrtO.iv).Perm (es.toList.map keyOf) := a2.trans pk
  refine wpAny_pure ⟨_, rfl, hQ _ s1.heap.objs.size out c _ (fun b u e => ?_) g1 o1 hz hc a1 (lt_of_le_nodup _ a3 (pn.nodup_iff.mpr nd)) (fun k => by rw [pn.mem_iff, ← hm k]) ?_⟩
  · have q := k1 b u e
    have hlt := Heap.lt_size q
    show (sortedHeap (s1.heap.push (seqObj "list" vs.toArray 0)) s1.heap.objs.size vs out.toArray).get? b = some u
    rw [sortedHeap_old (Nat.ne_of_lt hlt) (by rw [size_push']; exact Nat.lt_succ_of_lt hlt)]
    exact Heap.get?_push_of_some _ q
  · rw [pn.length_eq, List.length_map, Array.length_toList]; exact hn
end
/-- sorted(set(e)) -/
def tSortSet (K : PySem.W.Frag) (ta : TA) : TE := fun σ H Q => ta σ H fun vs H1 => ∃ (a : Addr) (ns : List Int), vs = [.ref a] ∧ SqL K H1 a (ns.map V.int) ∧ ns.length ≤ 4000 ∧
  ∀ (p : Addr) (ns' : List Int), H1 p = none → ns'.Pairwise (· < ·) → (∀ k, k ∈ ns' ↔ k ∈ ns) → Q (.ref p) (upd H1 p (.lst (ns'.map V.int)))
theorem pe_sortSet {X : Cx} {e : Expr} {ta : TA} {p1 p2 pos1 pos2 : Pos} (hg1 : Gl X "sorted") (hm1 : X.mg "sorted" = none) (hg2 : Gl X "set") (hm2 : X.mg "set" = none) (hc : X.calm = true) (ha : PA X [e] ta) (hs : starEach [e] X.env = [(false, eval e X.env)] := by rfl)
    (hs2 : starEach [.Call (.Name "set" p2) [e] [] pos2] X.env = [(false, eval (.Call (.Name "set" p2) [e] [] pos2) X.env)] := by rfl) :
    PE X (.Call (.Name "sorted" p1) [.Call (.Name "set" p2) [e] [] pos2] [] pos1) (tSortSet X.K ta) := by
  refine ⟨fun pins s σ H Q I h => ?_⟩
  refine wpAny_Call_Name_kw (ld_blt I hg1 hm1 (show bootBuiltins "sorted" = some (.builtin "sorted") by decide +kernel) ?_ (by decide) (by decide))
  refine PyProof.Rows.callWith_builtin1 ?_ hs2 rfl
  rw [hs2]
  refine Calls.spliced_cons (thn (Q := fun v s1 => wpAny (model X.prog X.w) X.A (call (.builtin "sorted") [v]) (EP X pins σ Q) X.xe s1) ?_ fun v s1 h1 => Calls.spliced_nil h1)
  refine wpAny_Call_Name_kw (ld_blt I hg2 hm2 PyProof.Rows.boot_set ?_ (by decide) (by decide))
  refine PyProof.Rows.callWith_type1 (thn (ha.run pos2 pins s σ H _ I h) fun us s1 ⟨vs, H1, I1, r1, q1⟩ => ?_) hs rfl
  obtain ⟨a, ns, ex, hq, hl, q⟩ := q1
  subst ex
  cases r1 with
  | cons r rr =>
    cases rr
    cases r
    obtain ⟨its, rv, p', hz⟩ := I1.list hq
    have hi : IntsAre its.toArray.toList ns := rv.ints
    have hd := I1.ok.hd hc
    refine set_list ns hd p'.isList hi (by unfold scanBound; omega) fun h' tk c R1 hcn k => ?_
    refine sorted_setO (s := { s1 with heap := h', toks := tk }) R1 hd fun s2 p out c2 ns' k2 g2 o2 hp hob hI hpw hmem hlen => ?_
    have kall : ∀ b u, s1.heap.get? b = some u → s2.heap.get? b = some u := fun b u e => k2 b u (k b u e)
    have hlt : s1.heap.objs.size < h'.objs.size := R1.lt
    have hle : s1.heap.objs.size ≤ p := Nat.le_trans (Nat.le_of_lt hlt) hp
    have hln : H1 p = none := I1.hok.fresh hle
    refine ⟨.ref p, upd H1 p (.lst (ns'.map V.int)), ?_, rfl, q p ns' hln hpw fun j => by rw [hmem j, decide_eq_true_eq]⟩
    have hlen2 : (ns'.map V.int).length ≤ sizeLine := by rw [List.length_map, hlen, sizeLine_eq]; omega
    exact I1.call' (ch := []) o2 (Un.laid kall hle hln) (I1.hok.laid kall hle ⟨hlen2, out, c2, vals_of_ints hI, hob⟩) (by rw [g2]; exact I1.bare) (fun _ z => nomatch z)
end Px
set_option Elab.async false
set_option linter.all false
set_option maxRecDepth 100000
set_option maxHeartbeats 4000000
namespace Px
open PySem L2 MA
local macro_rules | `(tactic| bv_omega) => `(tactic| first | assumption | omega | exact cm (by omega) | exact cd (by omega) | exact cp (by omega) | exact trivial)
local macro_rules | `(tactic| array_get_dec) => `(tactic| first
  | assumption
  | exact sq_up
  | exact Own.sqi (by assumption) 0 (by rfl)
  | exact Own.sqi (by assumption) 1 (by rfl)
  | exact Own.sqi (by assumption) 2 (by rfl)
  | exact Own.sqi (by assumption) 3 (by rfl)
  | exact Own.sqi (by assumption) 4 (by rfl)
  | exact Own.sq (by assumption) (by assumption)
  | exact sq_new (by assumption) (by assumption))
local macro_rules | `(tactic| clean_wf) => `(tactic| first
  | with_reducible exact ev_c
  | (with_reducible apply ev_v') <;> rfl
  | (with_reducible apply ev_add) <;> clean_wf
  | (with_reducible apply ev_sub) <;> clean_wf
  | (with_reducible apply ev_mul) <;> clean_wf
  | (with_reducible apply ev_mod) <;> clean_wf
  | (with_reducible apply ev_div) <;> clean_wf
  | (with_reducible apply ev_pow) <;> clean_wf
  | (with_reducible apply ev_neg) <;> clean_wf
  | (with_reducible apply ev_lt) <;> clean_wf
  | (with_reducible apply ev_le) <;> clean_wf
  | (with_reducible apply ev_gt) <;> clean_wf
  | (with_reducible apply ev_ge) <;> clean_wf
  | (with_reducible apply ev_eqi) <;> clean_wf
  | (with_reducible apply ev_nei) <;> clean_wf
  | (with_reducible apply ev_len) <;> clean_wf
  | (with_reducible apply ev_ixL) <;> clean_wf
  | (with_reducible apply ev_min) <;> clean_wf
  | (with_reducible apply ev_max) <;> clean_wf
  | (with_reducible apply ev_abs) <;> clean_wf
  | (with_reducible apply ev_intB) <;> clean_wf
  | (with_reducible apply ea_1) <;> clean_wf
  | (with_reducible apply ea_2) <;> clean_wf
  | (with_reducible apply ea_3) <;> clean_wf
  | with_reducible exact ea_nil
  | (with_reducible apply ea_cons) <;> clean_wf
  | with_reducible exact el_nil
  | (with_reducible apply ep_lt) <;> clean_wf
  | (with_reducible apply ep_le) <;> clean_wf
  | (with_reducible apply ep_gt) <;> clean_wf
  | (with_reducible apply ep_ge) <;> clean_wf
  | (with_reducible apply ep_eqi) <;> clean_wf
  | (with_reducible apply ep_nei) <;> clean_wf
  | (with_reducible apply ep_not) <;> clean_wf
  | ((with_reducible apply ep_and) <;> first | (intro _; clean_wf; done) | clean_wf)
  | ((with_reducible apply ep_or) <;> first | (intro _; clean_wf; done) | clean_wf)
  | (with_reducible apply et_t) <;> clean_wf
  | (with_reducible apply eo_is) <;> clean_wf
  | with_reducible exact eo_no
  | array_get_dec
  | bv_omega
  | rfl
  | skip)
local macro_rules | `(tactic| symm_saturate) => `(tactic| first
  | ((with_reducible apply q_set); (focus (clean_wf; done)))
  | ((with_reducible apply s_set); (focus (clean_wf; done)))
  | ((with_reducible apply q_aug (hx := rfl)); (focus (clean_wf; done)))
  | ((with_reducible apply s_aug (hx := rfl)); (focus (clean_wf; done)))
  | ((with_reducible apply q_augC (hx := rfl)); (focus (clean_wf; done)))
  | ((with_reducible apply s_augC (hx := rfl)); (focus (clean_wf; done))))
local macro_rules | `(tactic| subst_eqs) => `(tactic| repeat' (first
  | with_reducible apply w_c
  | ((with_reducible apply w_v'); (focus rfl))
  | with_reducible apply w_op
  | with_reducible apply w_cb
  | with_reducible apply w_cons
  | with_reducible apply w_nil
  | with_reducible apply r_add
  | with_reducible apply r_sub
  | ((with_reducible apply r_mul); (focus (bv_omega; done)))
  | ((with_reducible apply r_div); (focus (bv_omega; done)))
  | ((with_reducible apply r_mod); (focus (bv_omega; done)))
  | ((with_reducible apply r_pow); (focus (bv_omega; done)))
  | with_reducible apply r_lt
  | with_reducible apply r_le
  | with_reducible apply r_gt
  | with_reducible apply r_ge
  | with_reducible apply r_min
  | with_reducible apply r_max
  | with_reducible apply r_intB
  | ((with_reducible apply r_len); (focus (array_get_dec; done)))
  | with_reducible apply w_callW
  | with_reducible apply q_setW
  | with_reducible apply s_setW
  | with_reducible apply s_retW))

/-! ### the least product of so many -/
def optV : Option Nat → V
  | none => .non
  | some n => .int (n : Int)
theorem pow3 {p t : Nat} (hp : p ≤ 97) (ht : t ≤ 36) : p ^ t < 2 ^ 255 := by
  refine Nat.lt_of_le_of_lt (Nat.pow_le_pow_left (show p ≤ 128 by omega) t) ?_
  rw [show (128 : Nat) = 2 ^ 7 from rfl, ← Nat.pow_mul]
  exact Nat.pow_lt_pow_right (by omega) (by omega)
theorem cm3 {x y : Nat} (hx : x < 2 ^ 255) (hy : y < 2 ^ 255) : CMulW (x : Int) (y : Int) := by
  refine wide_mul (a := 255) (b := 255) ?_ ?_ (by decide) (by decide) (by decide)
  · rw [Int.natAbs_natCast]; exact hx
  · rw [Int.natAbs_natCast]; exact hy
theorem cd3 {i : Int} {y : Nat} (h0 : 0 < y) (hy : y < 2 ^ 255) : CDivW i (y : Int) := by
  refine wide_div (b := 255) (by omega) ?_ (by decide) (by decide)
  rw [Int.natAbs_natCast]; exact hy
def sp_product_of (K : PySem.W.Frag) : Sp := fun vs H Q _ => Nod H ∧ ∃ (p t : Nat), vs = [.int (p : Int), .int (t : Int)] ∧ p ≤ 97 ∧ t ≤ 36 ∧ Q (.int ((p ^ t : Nat) : Int)) H
/-- slots: prime many found turn -/
abbrev n_product_of : List Str := ["prime", "many", "found", "turn"]
def t_product_of (K : PySem.W.Frag) : TS := (sFg (tSeq (tAsg (tC (.int 1)) (gName 2))
  (tSeq (tFor (iRng1 (tCons (tVar 1) tNil)) (gName 3) (tAug 2 (tVar 0) (ipC CMulW fun i j => i * j)))
  (tRet (tVar 2)))))
theorem r_product_of {K : PySem.W.Frag} {vs : List V} {H : Hp} {Q : VK} {E : XK} (h : sp_product_of K vs H Q E) : t_product_of K { nx := fun _ H' => Q .non H', rt := Q } (start n_product_of vs) H := by
  obtain ⟨nd, p, t, rfl, hp, ht, q⟩ := h
  refine fg_body (q_set ev_c (q_forR1 (ea_1 (ev_v 1)) (by omega) (fun i σ' H' => ∃ y3 : Option V, σ' = [some (.int (p : Int)), some (.int (t : Int)), some (.int ((p ^ i : Nat) : Int)), y3] ∧ H' = H) ⟨none, rfl, rfl⟩ (fun i σ' H' hi hv => ?_) (fun σ' H' hv => ?_)))
  · obtain ⟨y3, rfl, rfl⟩ := hv
    exact s_augC (a := ((p ^ i : Nat) : Int)) (ev_v 0) ⟨some (.int (i : Int)), by rw [Nat.pow_succ]; simp, rfl⟩ (cm3 (pow3 hp (by omega)) (by omega))
  · obtain ⟨y3, rfl, rfl⟩ := hv
    exact s_ret (ev_v 2) ⟨_, fg_same ex_refl, q⟩
theorem e_prod {K : PySem.W.Frag} {σ : L2.St} {H : Hp} {ta tb : TE} {p t : Nat} [nd : Nod H] (hp : p ≤ 97 ∧ t ≤ 36) (ha : Ev ta σ H (.int (p : Int))) (hb : Ev tb σ H (.int (t : Int))) : Ev (tCall (sp_product_of K) [] E0 (tCons ta (tCons tb tNil))) σ H (.int ((p ^ t : Nat) : Int)) :=
  ev_call (ea_2 ha hb) fun Q q => ⟨nd, p, t, rfl, hp.1, hp.2, q⟩
def sp_least_fromD (d : Nat) (K : PySem.W.Frag) : Sp := fun vs H Q _ => Nod H ∧ ∃ (a : Addr) (row : List Nat) (m x : Nat), vs = [.ref a, .int (m : Int), .int (x : Int)] ∧ SqL K H a (zv row) ∧ Rw row ∧ row ≠ [] ∧ row.length ≤ d ∧ m ≤ 36 ∧ x < 2 ^ 100 ∧ Q (optV (lp row m x)) H
abbrev sp_least_from (K : PySem.W.Frag) : Sp := sp_least_fromD 7 K
theorem z_least_from {K : PySem.W.Frag} {vs : List V} {H : Hp} {Q : VK} {E : XK} (h : sp_least_fromD 0 K vs H Q E) : False := by
  obtain ⟨nd, a, row, m, x, rfl, sa, w, hne, hd, _⟩ := h
  exact hne (List.length_eq_zero_iff.mp (Nat.le_zero.mp hd))
/-- slots: row many number least some power taken rest -/
abbrev n_least_from : List Str := ["row", "many", "number", "least", "some", "power", "taken", "rest"]
def t_least_from (K : PySem.W.Frag) (d : Nat) : TS := (sFg (tSeq (tAsg (tCall (sp_product_of K) [] E0 (tCons (tOp (rIxL K) (tVar 0) (tC (.int 0))) (tCons (tVar 1) tNil))) (gName 3))
  (tSeq (tIfS (tTest (tOp oGe (tVar 3) (tVar 2))) (tRet (tVar 3)) tNext)
  (tSeq (tIfS (tTest (tOp oLt (tCall (sp_product_of K) [] E0 (tCons (tOp (rIxL K) (tVar 0) (tUn uNeg (tC (.int 1)))) (tCons (tVar 1) tNil))) (tVar 2))) (tRet (tC .non)) tNext)
  (tSeq (tAsg (tLst tNil) (gName 4))
  (tSeq (tAsg (tC (.int 1)) (gName 5))
  (tSeq (tFor (iRng1 (tCons (tOp oAdd (tVar 1) (tC (.int 1))) tNil)) (gName 6) (tSeq (tAsg (tFg (tCall (sp_least_fromD d K) [] E0 (tCons (tSl (rSlL K) (tVar 0) tNoPart (tPart (tUn uNeg (tC (.int 1))))) (tCons (tOp oSub (tVar 1) (tVar 6)) (tCons (tOp oDiv (tOp oSub (tOp oAdd (tVar 2) (tVar 5)) (tC (.int 1))) (tVar 5)) tNil))))) (gName 7))
  (tSeq (tIfS (tTest (tOp oNotN (tVar 7) (tC .non))) (tDrop (tBM K "list" rAppend (tVar 4) (tCons (tOp oMul (tVar 7) (tVar 5)) tNil))) tNext)
  (tAug 5 (tOp (rIxL K) (tVar 0) (tUn uNeg (tC (.int 1)))) (ipC CMulW fun i j => i * j)))))
  (tRet (tCB (rMin K) (tCons (tVar 4) tNil))))))))))
theorem zv_lastM {l : List Nat} {p : Nat} (h : l.getLast? = some p) : atI (zv l) (-1) = some (.int (p : Int)) := by
  obtain ⟨ys, rfl⟩ := List.getLast?_eq_some_iff.mp h
  rw [zv_app]
  exact atI_last _ _
theorem atI_lastN {row : List Nat} (hne : row ≠ []) : atI (zv row) (-1) = some (.int (row.getLast hne : Int)) := zv_lastM (List.getLast?_eq_some_getLast hne)
theorem cut_init2 {row : List Nat} : cutV (zv row) none (some (-1)) = zv row.dropLast := by
  rw [cutV_int, HT.sIx_none, zl_len, show HT.sIx row.length row.length (some (-1)) = row.length - 1 by simp only [HT.sIx]; rw [if_pos (by omega)]; omega, List.drop_zero, List.dropLast_eq_take]
  simp
theorem last_max {row : List Nat} (h : row.Pairwise (· < ·)) (hne : row ≠ []) : ∀ q ∈ row, q ≤ row.getLast hne := by
  intro q hq
  have e := List.dropLast_concat_getLast hne
  rw [← e] at hq h
  rcases List.mem_append.mp hq with hq | hq
  · exact Nat.le_of_lt ((List.pairwise_append.mp h).2.2 q hq _ (by simp))
  · rw [List.mem_singleton.mp hq]; exact Nat.le_refl _
theorem head_min {p : Nat} {r : List Nat} (h : (p :: r).Pairwise (· < ·)) : ∀ q ∈ p :: r, p ≤ q := by
  intro q hq
  rcases List.mem_cons.mp hq with rfl | hq
  · exact Nat.le_refl _
  · exact Nat.le_of_lt ((List.pairwise_cons.mp h).1 q hq)
theorem r_least_from {d : Nat} {K : PySem.W.Frag} {vs : List V} {H : Hp} {Q : VK} {E : XK} (h : sp_least_fromD (d + 1) K vs H Q E) : t_least_from K d { nx := fun _ H' => Q .non H', rt := Q } (start n_least_from vs) H := by
  obtain ⟨nd, a, row, m, x, rfl, sa, w, hne, hd, hm, hx, q⟩ := h
  have hLm : row.getLast hne ∈ row := List.getLast_mem hne
  have hmax := last_max w.up hne
  have hat := atI_lastN hne
  have erow : row.dropLast ++ [row.getLast hne] = row := List.dropLast_concat_getLast hne
  generalize row.getLast hne = L at hLm hmax hat erow
  have hL := w.ge hLm
  obtain ⟨p, r, rfl⟩ := List.exists_cons_of_ne_nil hne
  have hp := w.ge (p := p) List.mem_cons_self
  have hmin := head_min w.up
  refine fg_body (q_set (e_prod (p := p) (t := m) ⟨hp.2, hm⟩ (ev_ixL (i := 0) (ev_v 0) ev_c sa zv_0) (ev_v 1)) (q_whenP (ep_ge (ev_v 3) (ev_v 2)) (fun hc => ?_) fun hc => q_whenP (ep_lt (e_prod (p := L) (t := m) ⟨hL.2, hm⟩ (ev_ixL (i := -1) (ev_v 0) (ev_neg ev_c) sa hat) (ev_v 1)) (ev_v 2)) (fun hc2 => ?_) fun hc2 => q_setL el_nil fun ps hps => q_set ev_c ?_))
  · rw [lp_some (n := p ^ m) ⟨mp_pow List.mem_cons_self m, by omega, fun k hk _ => mp_ge hmin hk⟩] at q
    exact s_ret (ev_v 3) ⟨H, fg_same ex_refl, q⟩
  · rw [lp_none fun k hk => by have := mp_le hmax hk; omega] at q
    exact s_ret ev_c ⟨H, fg_same ex_refl, q⟩
  have o : Own H [(ps, zv [])] (upd H ps (.lst [])) := Own.nil.new hps
  have hxm : x ≤ L ^ m := by omega
  have hpm : p ^ m < x := by omega
  have hine : (p :: r).dropLast ≠ [] := fun z => by
    rw [z, List.nil_append] at erow
    have : L = p := by injection erow
    rw [this] at hxm
    omega
  have hil : (p :: r).dropLast.length ≤ d := by rw [List.length_dropLast]; omega
  have wi : Rw (p :: r).dropLast := w.sub (List.dropLast_sublist _)
  have ecut := cut_init2 (row := p :: r)
  have hP : ∀ t, 0 < L ^ t := fun t => Nat.pow_pos (by omega)
  generalize hI : (p :: r).dropLast = I at erow hine hil wi ecut
  refine q_forR1 (k := ((m + 1 : Nat) : Int)) (ea_1 (ev_eq (ev_add (i := (m : Int)) (ev_v 1) ev_c) (by simp))) (by omega) (fun i σ' H' => ∃ (S : List Nat) (y6 y7 : Option V), σ' = [some (.ref a), some (.int (m : Int)), some (.int (x : Int)), some (.int ((p ^ m : Nat) : Int)), some (.ref ps), some (.int ((L ^ i : Nat) : Int)), y6, y7] ∧ Own H [(ps, zv S)] H' ∧ S.length ≤ i ∧ (∀ y ∈ S, ∃ t, t ≤ m ∧ ∃ k, lp I (m - t) ((x + L ^ t - 1) / L ^ t) = some k ∧ y = k * L ^ t) ∧ (∀ t, t < i → ∀ k, lp I (m - t) ((x + L ^ t - 1) / L ^ t) = some k → k * L ^ t ∈ S)) ⟨[], none, none, rfl, o, by simp, fun y hy => (List.not_mem_nil hy).elim, fun t ht => absurd ht (Nat.not_lt_zero t)⟩ (fun i σ' H' hi hv => ?_) (fun σ' H' hv => ?_)
  · obtain ⟨S, y6, y7, rfl, o, hlen, hS1, hS2⟩ := hv
    have nd' := o.nod
    have him : i ≤ m := by omega
    have hPi := hP i
    have hLi : L ^ i < 2 ^ 255 := pow3 hL.2 (by omega)
    have ed : ((x : Int) + ((L ^ i : Nat) : Int) - 1) / ((L ^ i : Nat) : Int) = (((x + L ^ i - 1) / L ^ i : Nat) : Int) := by
      rw [Int.natCast_ediv]
      congr 1
      omega
    have hcx : (x + L ^ i - 1) / L ^ i ≤ x := (ceil_le hPi).mpr (Nat.le_mul_of_pos_right _ hPi)
    refine q_set (v := optV (lp I (m - i) ((x + L ^ i - 1) / L ^ i))) (ev_callL (xs := zv I) (vs := [.int ((m - i : Nat) : Int), .int (((x + L ^ i - 1) / L ^ i : Nat) : Int)]) (ecut ▸ el_sl (lo := none) (hi := some (-1)) (ev_v 0) eo_no (eo_is (ev_neg ev_c)) (o.sq sa)) (fun p1 hp1 => ea_2 (ev_eq (ev_sub (i := (m : Int)) (j := (i : Int)) (ev_v 1) (ev_v 6)) (by congr 1; omega)) (ev_eq (ev_div (ev_sub (ev_add (ev_v 2) (ev_v 5)) ev_c) (ev_v 5) (cd3 hPi hLi)) (congrArg V.int ed))) fun p1 hp1 Q q => ⟨inferInstance, p1, I, m - i, _, rfl, sq_up, wi, hine, hil, by omega, by omega, q⟩) ?_
    cases e : lp I (m - i) ((x + L ^ i - 1) / L ^ i) with
    | none =>
      refine q_when (b := false) (et_eq (et_t (ev_notN (ev_v 7))) rfl) (fun z => nomatch z) fun _ => ?_
      refine s_augC (a := ((L ^ i : Nat) : Int)) (b := (L : Int)) (ev_ixL (i := -1) (ev_v 0) (ev_neg ev_c) (o.sq sa) hat) ⟨S, some (.int (i : Int)), some (optV none), (by rw [Nat.pow_succ]; simp), o, by omega, hS1, fun t ht k hk => ?_⟩ (cm3 hLi (by omega))
      by_cases z : t = i
      · subst z; rw [e] at hk; cases hk
      · exact hS2 t (by omega) k hk
    | some k =>
      have hk := lp_is e
      have hkb : k < 2 ^ 255 := Nat.lt_of_le_of_lt (mp_le (p := 97) (fun q hq => (wi.ge hq).2) hk.made) (pow3 (Nat.le_refl _) (by omega))
      refine q_when (b := true) (et_eq (et_t (ev_notN (ev_v 7))) rfl) (fun _ => ?_) fun z => nomatch z
      refine s_app (o.atI 0 rfl) (by rw [zv_len]; exact szl (by omega)) (ev_v 4) (ev_mul (i := (k : Int)) (ev_v 7) (ev_v 5) (cm3 hkb hLi)) ?_
      rw [show zv S ++ [V.int ((k : Int) * ((L ^ i : Nat) : Int))] = zv (S ++ [k * L ^ i]) by rw [zv_app]; simp]
      replace o := o.mut (ys := zv (S ++ [k * L ^ i])) 0 rfl
      refine s_augC (a := ((L ^ i : Nat) : Int)) (b := (L : Int)) (ev_ixL (i := -1) (ev_v 0) (ev_neg ev_c) (o.sq sa) hat) ⟨S ++ [k * L ^ i], some (.int (i : Int)), some (optV (some k)), (by rw [Nat.pow_succ]; simp), o, (by simp; omega), fun y hy => ?_, fun t ht k' hk' => ?_⟩ (cm3 hLi (by omega))
      · rcases List.mem_append.mp hy with hy | hy
        · exact hS1 y hy
        · exact ⟨i, him, k, e, List.mem_singleton.mp hy⟩
      · by_cases z : t = i
        · subst z; rw [e] at hk'; cases hk'; simp
        · exact List.mem_append_left _ (hS2 t (by omega) k' hk')
  · obtain ⟨S, y6, y7, rfl, o, hlen, hS1, hS2⟩ := hv
    rw [show ((m + 1 : Nat) : Int).toNat = m + 1 from rfl] at hS2
    have hSm : 1 * L ^ m ∈ S := hS2 m (by omega) 1 (by
      rw [Nat.sub_self]
      exact lp_some ⟨.one, (ceil_le (hP m)).mpr (by omega), fun k hk _ => by rw [mp_zero hk]; exact Nat.le_refl _⟩)
    refine s_retW (w_cb (w_one (w_v 4 ⟨ps, zl S, rfl, o.sqi 0 rfl, by rw [zl_len]; exact List.length_pos_of_mem hSm, fun mm hmm hall => ⟨H, o.keep, ?_⟩⟩)))
    obtain ⟨n, hn, rfl⟩ := List.mem_map.mp hmm
    have hle : ∀ y ∈ S, n ≤ y := fun y hy => by
      have := hall _ (List.mem_map.mpr ⟨y, hy, rfl⟩)
      omega
    have hlp : IsLp (I ++ [L]) m x n := lp_step (by omega) (hS1 n hn) fun t ht k hk => hle _ (hS2 t (by omega) k hk)
    rw [erow] at hlp
    rw [lp_some hlp] at q
    exact q
/-- what least_of_many tells -/
noncomputable def lom (row : List Nat) (m x : Nat) : Option Nat := (lp row m x).bind fun n => if n ≤ 10 ^ 30 then some n else none
def sp_least_of_many (K : PySem.W.Frag) : Sp := fun vs H Q _ => Nod H ∧ ∃ (a : Addr) (row : List Nat) (m x : Nat), vs = [.ref a, .int (m : Int), .int (x : Int)] ∧ RowAt H a row ∧ m ≤ 36 ∧ x < 2 ^ 100 ∧ Q (optV (lom row m x)) H
/-- slots: row many number found -/
abbrev n_least_of_many : List Str := ["row", "many", "number", "found"]
def t_least_of_many (K : PySem.W.Frag) : TS := (sFg (tSeq (tDrop (tCall (sp_is_made_of K) [] E0 (tCons (tVar 0) (tCons (tC (.int 1)) tNil))))
  (tSeq (tAsg (tCall (sp_least_from K) [] E0 (tCons (tVar 0) (tCons (tVar 1) (tCons (tVar 2) tNil)))) (gName 3))
  (tSeq (tIfS (tOr (tTest (tOp oIsN (tVar 3) (tC .non))) (tTest (tOp oGt (tVar 3) (tC (.int 1000000000000000000000000000000))))) (tRet (tC .non)) tNext)
  (tRet (tVar 3))))))
theorem r_least_of_many {K : PySem.W.Frag} {vs : List V} {H : Hp} {Q : VK} {E : XK} (h : sp_least_of_many K vs H Q E) : t_least_of_many K { nx := fun _ H' => Q .non H', rt := Q } (start n_least_of_many vs) H := by
  obtain ⟨nd, a, row, m, x, rfl, r, hm, hx, q⟩ := h
  have h6 := r.w.le
  refine fg_body (q_drop (ev_call (v := .bl _) (ea_2 (ev_v 0) ev_c) (fun Q q => ⟨nd, a, row, 1, rfl, r.1, r.w, r.ne, q⟩) _ (q_set (v := optV (lp row m x)) (ev_call (ea_3 (ev_v 0) (ev_v 1) (ev_v 2)) fun Q q => ⟨nd, a, row, m, x, rfl, sq_at r.1, r.w, r.ne, by omega, hm, hx, q⟩) ?_)))
  unfold lom at q
  cases e : lp row m x with
  | none =>
    rw [e] at q
    refine q_when (b := true) (et_or (b := true) (et_eq (b := true) (et_t (ev_isN (ev_v 3))) rfl) fun z => nomatch z) (fun _ => ?_) fun z => nomatch z
    exact s_ret ev_c ⟨H, fg_same ex_refl, q⟩
  | some n =>
    rw [e] at q
    refine q_whenP (P := ¬ n ≤ 10 ^ 30) (ep_iff (ep_or (P := False) (ep_iff (ep_isN (x := .int (n : Int)) (ev_v 3)) ⟨fun z => (nomatch z), False.elim⟩) fun _ => ep_gt (i := (n : Int)) (ev_v 3) ev_c) (by rw [false_or]; omega)) (fun hc => ?_) fun hc => ?_
    · simp only [Option.bind_some, if_neg hc] at q
      exact s_ret ev_c ⟨H, fg_same ex_refl, q⟩
    · simp only [Option.bind_some, if_pos (Decidable.of_not_not hc)] at q
      exact s_ret (ev_v 3) ⟨H, fg_same ex_refl, q⟩
theorem e_lom {K : PySem.W.Frag} {σ : L2.St} {H : Hp} {ta tb tc : TE} {a : Addr} {row : List Nat} {m x : Nat} [nd : Nod H] (r : RowAt H a row) (hm : m ≤ 36) (hx : x < 2 ^ 100) (ha : Ev ta σ H (.ref a)) (hb : Ev tb σ H (.int (m : Int))) (hc : Ev tc σ H (.int (x : Int))) : Ev (tCall (sp_least_of_many K) [] E0 (tCons ta (tCons tb (tCons tc tNil)))) σ H (optV (lom row m x)) :=
  ev_call (ea_3 ha hb hc) fun Q q => ⟨nd, a, row, m, x, rfl, r, hm, hx, q⟩
end Px
set_option Elab.async false
set_option linter.all false
set_option maxRecDepth 100000
set_option maxHeartbeats 4000000
namespace Px
open PySem L2 MA
local macro_rules | `(tactic| bv_omega) => `(tactic| first | assumption | omega | exact cm (by omega) | exact cd (by omega) | exact cp (by omega) | exact trivial)
local macro_rules | `(tactic| array_get_dec) => `(tactic| first
  | assumption
  | exact sq_up
  | exact Own.sqi (by assumption) 0 (by rfl)
  | exact Own.sqi (by assumption) 1 (by rfl)
  | exact Own.sqi (by assumption) 2 (by rfl)
  | exact Own.sqi (by assumption) 3 (by rfl)
  | exact Own.sqi (by assumption) 4 (by rfl)
  | exact Own.sq (by assumption) (by assumption)
  | exact sq_new (by assumption) (by assumption))
local macro_rules | `(tactic| clean_wf) => `(tactic| first
  | with_reducible exact ev_c
  | (with_reducible apply ev_v') <;> rfl
  | (with_reducible apply ev_add) <;> clean_wf
  | (with_reducible apply ev_sub) <;> clean_wf
  | (with_reducible apply ev_mul) <;> clean_wf
  | (with_reducible apply ev_mod) <;> clean_wf
  | (with_reducible apply ev_div) <;> clean_wf
  | (with_reducible apply ev_pow) <;> clean_wf
  | (with_reducible apply ev_neg) <;> clean_wf
  | (with_reducible apply ev_lt) <;> clean_wf
  | (with_reducible apply ev_le) <;> clean_wf
  | (with_reducible apply ev_gt) <;> clean_wf
  | (with_reducible apply ev_ge) <;> clean_wf
  | (with_reducible apply ev_eqi) <;> clean_wf
  | (with_reducible apply ev_nei) <;> clean_wf
  | (with_reducible apply ev_len) <;> clean_wf
  | (with_reducible apply ev_ixL) <;> clean_wf
  | (with_reducible apply ev_min) <;> clean_wf
  | (with_reducible apply ev_max) <;> clean_wf
  | (with_reducible apply ev_abs) <;> clean_wf
  | (with_reducible apply ev_intB) <;> clean_wf
  | (with_reducible apply ea_1) <;> clean_wf
  | (with_reducible apply ea_2) <;> clean_wf
  | (with_reducible apply ea_3) <;> clean_wf
  | with_reducible exact ea_nil
  | (with_reducible apply ea_cons) <;> clean_wf
  | with_reducible exact el_nil
  | (with_reducible apply ep_lt) <;> clean_wf
  | (with_reducible apply ep_le) <;> clean_wf
  | (with_reducible apply ep_gt) <;> clean_wf
  | (with_reducible apply ep_ge) <;> clean_wf
  | (with_reducible apply ep_eqi) <;> clean_wf
  | (with_reducible apply ep_nei) <;> clean_wf
  | (with_reducible apply ep_not) <;> clean_wf
  | ((with_reducible apply ep_and) <;> first | (intro _; clean_wf; done) | clean_wf)
  | ((with_reducible apply ep_or) <;> first | (intro _; clean_wf; done) | clean_wf)
  | (with_reducible apply et_t) <;> clean_wf
  | (with_reducible apply eo_is) <;> clean_wf
  | with_reducible exact eo_no
  | array_get_dec
  | bv_omega
  | rfl
  | skip)
local macro_rules | `(tactic| symm_saturate) => `(tactic| first
  | ((with_reducible apply q_set); (focus (clean_wf; done)))
  | ((with_reducible apply s_set); (focus (clean_wf; done)))
  | ((with_reducible apply q_aug (hx := rfl)); (focus (clean_wf; done)))
  | ((with_reducible apply s_aug (hx := rfl)); (focus (clean_wf; done)))
  | ((with_reducible apply q_augC (hx := rfl)); (focus (clean_wf; done)))
  | ((with_reducible apply s_augC (hx := rfl)); (focus (clean_wf; done))))
local macro_rules | `(tactic| subst_eqs) => `(tactic| repeat' (first
  | with_reducible apply w_c
  | ((with_reducible apply w_v'); (focus rfl))
  | with_reducible apply w_op
  | with_reducible apply w_cb
  | with_reducible apply w_cons
  | with_reducible apply w_nil
  | with_reducible apply r_add
  | with_reducible apply r_sub
  | ((with_reducible apply r_mul); (focus (bv_omega; done)))
  | ((with_reducible apply r_div); (focus (bv_omega; done)))
  | ((with_reducible apply r_mod); (focus (bv_omega; done)))
  | ((with_reducible apply r_pow); (focus (bv_omega; done)))
  | with_reducible apply r_lt
  | with_reducible apply r_le
  | with_reducible apply r_gt
  | with_reducible apply r_ge
  | with_reducible apply r_min
  | with_reducible apply r_max
  | with_reducible apply r_intB
  | ((with_reducible apply r_len); (focus (array_get_dec; done)))
  | with_reducible apply w_callW
  | with_reducible apply q_setW
  | with_reducible apply s_setW
  | with_reducible apply s_retW))

/-! ### the nearest -/
noncomputable def near (row : List Nat) (n : Nat) : Nat := if n - lst row (n + 1) ≤ nxt row (n - 1) - n then lst row (n + 1) else nxt row (n - 1)
theorem near_facts {row : List Nat} (g : Good row) (hne : row ≠ []) {n : Nat} (hn : 0 < n) : IsNext row (n - 1) (nxt row (n - 1)) ∧ IsLast row (n + 1) (lst row (n + 1)) ∧ n ≤ nxt row (n - 1) ∧ lst row (n + 1) ≤ n ∧ 0 < lst row (n + 1) := by
  have h1 := nxt_is g hne (n - 1)
  have h2 := lst_is (row := row) (n := n + 1) (by omega)
  have h3 := h1.gt
  have h4 := h2.lt
  exact ⟨h1, h2, by omega, by omega, mk_pos g.ge h2.made⟩
def sp_nearest (K : PySem.W.Frag) : Sp := fun vs H Q _ => Nod H ∧ ∃ (a : Addr) (row : List Nat) (n : Nat), vs = [.ref a, .int (n : Int)] ∧ RowAt H a row ∧ 0 < n ∧ n ≤ topN row ∧ Q (.int (near row n : Int)) H
/-- slots: row number above below -/
abbrev n_nearest : List Str := ["row", "number", "above", "below"]
def t_nearest (K : PySem.W.Frag) : TS := (sFg (tSeq (tAsg (tCall (sp_next_one K) [] E0 (tCons (tVar 0) (tCons (tOp oSub (tVar 1) (tC (.int 1))) tNil))) (gName 2))
  (tSeq (tAsg (tCall (sp_last_one K) [] E0 (tCons (tVar 0) (tCons (tOp oAdd (tVar 1) (tC (.int 1))) tNil))) (gName 3))
  (tSeq (tIfS (tTest (tOp oLe (tOp oSub (tVar 1) (tVar 3)) (tOp oSub (tVar 2) (tVar 1)))) (tRet (tVar 3)) tNext)
  (tRet (tVar 2))))))
theorem r_nearest {K : PySem.W.Frag} {vs : List V} {H : Hp} {Q : VK} {E : XK} (h : sp_nearest K vs H Q E) : t_nearest K { nx := fun _ H' => Q .non H', rt := Q } (start n_nearest vs) H := by
  obtain ⟨nd, a, row, n, rfl, r, hn, ht, q⟩ := h
  obtain ⟨h1, h2, h3, h4, h5⟩ := near_facts r.g r.ne hn
  have f1 := topN_next r.w r.ne (show n - 1 ≤ topN row by omega)
  have f2 : Fits (row.drop 1) (n + 1 - 1) := (topN_next r.w r.ne ht).1.mono (by omega)
  have el : lastV row (n + 1) = .int (lst row (n + 1) : Int) := if_neg (by omega)
  unfold near at q
  refine fg_body (q_set (e_next (n := n - 1) r f1 (ev_v 0) (ev_eq (ev_sub (ev_v 1) ev_c) (by congr 1; omega))) (q_set (v := .int (lst row (n + 1) : Int)) (ev_eq (e_last (n := n + 1) r f2 (ev_v 0) (ev_eq (ev_add (i := (n : Int)) (ev_v 1) ev_c) rfl)) el) (q_whenP (by clean_wf) (fun hc => ?_) fun hc => ?_)))
  · rw [if_pos (by omega)] at q
    exact s_ret (ev_v 3) ⟨H, fg_same ex_refl, q⟩
  · rw [if_neg (by omega)] at q
    exact s_ret (ev_v 2) ⟨H, fg_same ex_refl, q⟩
theorem e_near {K : PySem.W.Frag} {σ : L2.St} {H : Hp} {ta tb : TE} {a : Addr} {row : List Nat} {n : Nat} [nd : Nod H] (r : RowAt H a row) (hn : 0 < n ∧ n ≤ topN row) (ha : Ev ta σ H (.ref a)) (hb : Ev tb σ H (.int (n : Int))) : Ev (tCall (sp_nearest K) [] E0 (tCons ta (tCons tb tNil))) σ H (.int (near row n : Int)) :=
  ev_call (ea_2 ha hb) fun Q q => ⟨nd, a, row, n, rfl, r, hn.1, hn.2, q⟩
theorem near_c {row : List Nat} {n x y m : Nat} (h1 : nxt row (n - 1) = x) (h2 : lst row (n + 1) = y) (h : (if n - y ≤ x - n then y else x) = m) : near row n = m := by unfold near; rw [h1, h2]; exact h
end Px
set_option Elab.async false
set_option linter.all false
set_option maxRecDepth 100000
set_option maxHeartbeats 4000000
namespace Px
open PySem L2 MA
local macro_rules | `(tactic| bv_omega) => `(tactic| first | assumption | omega | exact cm (by omega) | exact cd (by omega) | exact cp (by omega) | exact trivial)
local macro_rules | `(tactic| array_get_dec) => `(tactic| first
  | assumption
  | exact sq_up
  | exact Own.sqi (by assumption) 0 (by rfl)
  | exact Own.sqi (by assumption) 1 (by rfl)
  | exact Own.sqi (by assumption) 2 (by rfl)
  | exact Own.sqi (by assumption) 3 (by rfl)
  | exact Own.sqi (by assumption) 4 (by rfl)
  | exact Own.sq (by assumption) (by assumption)
  | exact sq_new (by assumption) (by assumption))
local macro_rules | `(tactic| clean_wf) => `(tactic| first
  | with_reducible exact ev_c
  | (with_reducible apply ev_v') <;> rfl
  | (with_reducible apply ev_add) <;> clean_wf
  | (with_reducible apply ev_sub) <;> clean_wf
  | (with_reducible apply ev_mul) <;> clean_wf
  | (with_reducible apply ev_mod) <;> clean_wf
  | (with_reducible apply ev_div) <;> clean_wf
  | (with_reducible apply ev_pow) <;> clean_wf
  | (with_reducible apply ev_neg) <;> clean_wf
  | (with_reducible apply ev_lt) <;> clean_wf
  | (with_reducible apply ev_le) <;> clean_wf
  | (with_reducible apply ev_gt) <;> clean_wf
  | (with_reducible apply ev_ge) <;> clean_wf
  | (with_reducible apply ev_eqi) <;> clean_wf
  | (with_reducible apply ev_nei) <;> clean_wf
  | (with_reducible apply ev_len) <;> clean_wf
  | (with_reducible apply ev_ixL) <;> clean_wf
  | (with_reducible apply ev_min) <;> clean_wf
  | (with_reducible apply ev_max) <;> clean_wf
  | (with_reducible apply ev_abs) <;> clean_wf
  | (with_reducible apply ev_intB) <;> clean_wf
  | (with_reducible apply ea_1) <;> clean_wf
  | (with_reducible apply ea_2) <;> clean_wf
  | (with_reducible apply ea_3) <;> clean_wf
  | with_reducible exact ea_nil
  | (with_reducible apply ea_cons) <;> clean_wf
  | with_reducible exact el_nil
  | (with_reducible apply ep_lt) <;> clean_wf
  | (with_reducible apply ep_le) <;> clean_wf
  | (with_reducible apply ep_gt) <;> clean_wf
  | (with_reducible apply ep_ge) <;> clean_wf
  | (with_reducible apply ep_eqi) <;> clean_wf
  | (with_reducible apply ep_nei) <;> clean_wf
  | (with_reducible apply ep_not) <;> clean_wf
  | ((with_reducible apply ep_and) <;> first | (intro _; clean_wf; done) | clean_wf)
  | ((with_reducible apply ep_or) <;> first | (intro _; clean_wf; done) | clean_wf)
  | (with_reducible apply et_t) <;> clean_wf
  | (with_reducible apply eo_is) <;> clean_wf
  | with_reducible exact eo_no
  | array_get_dec
  | bv_omega
  | rfl
  | skip)
local macro_rules | `(tactic| symm_saturate) => `(tactic| first
  | ((with_reducible apply q_set); (focus (clean_wf; done)))
  | ((with_reducible apply s_set); (focus (clean_wf; done)))
  | ((with_reducible apply q_aug (hx := rfl)); (focus (clean_wf; done)))
  | ((with_reducible apply s_aug (hx := rfl)); (focus (clean_wf; done)))
  | ((with_reducible apply q_augC (hx := rfl)); (focus (clean_wf; done)))
  | ((with_reducible apply s_augC (hx := rfl)); (focus (clean_wf; done))))
local macro_rules | `(tactic| subst_eqs) => `(tactic| repeat' (first
  | with_reducible apply w_c
  | ((with_reducible apply w_v'); (focus rfl))
  | with_reducible apply w_op
  | with_reducible apply w_cb
  | with_reducible apply w_cons
  | with_reducible apply w_nil
  | with_reducible apply r_add
  | with_reducible apply r_sub
  | ((with_reducible apply r_mul); (focus (bv_omega; done)))
  | ((with_reducible apply r_div); (focus (bv_omega; done)))
  | ((with_reducible apply r_mod); (focus (bv_omega; done)))
  | ((with_reducible apply r_pow); (focus (bv_omega; done)))
  | with_reducible apply r_lt
  | with_reducible apply r_le
  | with_reducible apply r_gt
  | with_reducible apply r_ge
  | with_reducible apply r_min
  | with_reducible apply r_max
  | with_reducible apply r_intB
  | ((with_reducible apply r_len); (focus (array_get_dec; done)))
  | with_reducible apply w_callW
  | with_reducible apply q_setW
  | with_reducible apply s_setW
  | with_reducible apply s_retW))

/-! ### neighbours -/
def sp_neighboursX (K : PySem.W.Frag) : Sp := fun vs H Q E => Nod H ∧ ∃ v w : V, vs = [v, w] ∧ (sp_neighbours K [v, w] H Q E0 ∨ (BadRow K H v ∧ E (npA K) none H))
/-- slots: row bound found firsts one other number -/
abbrev n_neighboursX : List Str := ["row", "bound", "found", "firsts", "one", "other", "number"]
def t_neighboursX (K : PySem.W.Frag) (E : XK) : TS := (sFg (tSeq (tDrop (tCallS (sp_is_made_ofX K) (WE (fun cls d _ H => E cls d H)) (tCons (tVar 0) (tCons (tC (.int 1)) tNil))))
  (tSeq (tAsg (tCall (sp_made_toN K) [] E0 (tCons (tVar 0) (tCons (tOp oAdd (tVar 1) (tC (.int 1))) tNil))) (gName 2))
  (tSeq (sFg (tAsg (tLc (iZip K (tCons (tVar 2) (tCons (tSl (rSlL K) (tVar 2) (tPart (tC (.int 1))) tNoPart) tNil))) (gTup K 2 (gCons (gName 4) (gCons (gName 5) gNil))) (tTest (tOp rEq (tVar 5) (tOp oAdd (tVar 4) (tC (.int 1))))) (tVar 4) [4, 5]) (gName 3)))
  (tRet (tLc (iList K (tVar 3)) (gName 6) (tTest (tOp oLe (tVar 6) (tVar 1))) (tVar 6) [6]))))))
theorem r_neighboursX {K : PySem.W.Frag} {vs : List V} {H : Hp} {Q : VK} {E : XK} (h : sp_neighboursX K vs H Q E) : t_neighboursX K E { nx := fun _ H' => Q .non H', rt := Q } (start n_neighboursX vs) H := by
  obtain ⟨nd, v, x, rfl, h⟩ := h
  rcases h with h | ⟨bad, q⟩
  · obtain ⟨u, hu, g⟩ := r_neighbours h
    exact ⟨u, hu, nd, u, .int 1, rfl, .inl g⟩
  · exact fg_body (q_drop (ea_2 (ev_v 0) ev_c _ ⟨nd, _, _, rfl, .inr ⟨bad, q⟩⟩))
def sp_last_neighbourX (K : PySem.W.Frag) : Sp := fun vs H Q E => Nod H ∧ ∃ v w : V, vs = [v, w] ∧ (sp_last_neighbour K [v, w] H Q E0 ∨ (BadRow K H v ∧ E (npA K) none H))
/-- slots: row bound found -/
abbrev n_last_neighbourX : List Str := ["row", "bound", "found"]
def t_last_neighbourX (K : PySem.W.Frag) (E : XK) : TS := (sFg (tSeq (tAsg (tCallS (sp_neighboursX K) (WE (fun cls d _ H => E cls d H)) (tCons (tVar 0) (tCons (tVar 1) tNil))) (gName 2))
  (tSeq (tIfS (bFg (tTest (tOp (rEqD K) (tVar 2) (tLst tNil)))) (tRet (tC .non)) tNext)
  (tRet (tOp (rIxL K) (tVar 2) (tUn uNeg (tC (.int 1))))))))
theorem r_last_neighbourX {K : PySem.W.Frag} {vs : List V} {H : Hp} {Q : VK} {E : XK} (h : sp_last_neighbourX K vs H Q E) : t_last_neighbourX K E { nx := fun _ H' => Q .non H', rt := Q } (start n_last_neighbourX vs) H := by
  obtain ⟨nd, v, x, rfl, h⟩ := h
  rcases h with h | ⟨bad, q⟩
  · obtain ⟨u, hu, u2, hu2, g⟩ := r_last_neighbour h
    exact ⟨u, hu, u2, hu2, nd, u, u2, rfl, .inl g⟩
  · exact fg_body (q_setW (ea_2 (ev_v 0) (ev_v 1) _ ⟨nd, _, _, rfl, .inr ⟨bad, q⟩⟩))
def sp_many_neighboursX (K : PySem.W.Frag) : Sp := fun vs H Q E => Nod H ∧ ∃ v w : V, vs = [v, w] ∧ (sp_many_neighbours K [v, w] H Q E0 ∨ (BadRow K H v ∧ E (npA K) none H))
/-- slots: row bound -/
abbrev n_many_neighboursX : List Str := ["row", "bound"]
def t_many_neighboursX (K : PySem.W.Frag) (E : XK) : TS := (sFg (tRet (tFg (tCB (cLen K) (tCons (tCallS (sp_neighboursX K) (WE (fun cls d _ H => E cls d H)) (tCons (tVar 0) (tCons (tVar 1) tNil))) tNil)))))
theorem r_many_neighboursX {K : PySem.W.Frag} {vs : List V} {H : Hp} {Q : VK} {E : XK} (h : sp_many_neighboursX K vs H Q E) : t_many_neighboursX K E { nx := fun _ H' => Q .non H', rt := Q } (start n_many_neighboursX vs) H := by
  obtain ⟨nd, v, x, rfl, h⟩ := h
  rcases h with h | ⟨bad, q⟩
  · obtain ⟨u, hu, u2, hu2, g⟩ := r_many_neighbours h
    exact ⟨u, hu, u2, hu2, nd, u, u2, rfl, .inl g⟩
  · exact ⟨_, rfl, _, rfl, nd, _, _, rfl, .inr ⟨bad, q⟩⟩
/-! ### nearest -/
def sp_next_oneX (K : PySem.W.Frag) : Sp := fun vs H Q E => Nod H ∧ ∃ v w : V, vs = [v, w] ∧ (sp_next_one K [v, w] H Q E0 ∨ (BadRow K H v ∧ E (npA K) none H))
/-- slots: row number best rest -/
abbrev n_next_oneX : List Str := ["row", "number", "best", "rest"]
def t_next_oneX (K : PySem.W.Frag) (E : XK) : TS := (sFg (tSeq (tDrop (tCallS (sp_need_rowX K) (WE (fun cls d _ H => E cls d H)) (tCons (tVar 0) tNil)))
  (tSeq (tIfS (tTest (tOp rEq (tVar 1) (tC (.int 0)))) (tRet (tC (.int 1))) tNext)
  (tSeq (tAsg (tOp oMul (tCall (sp_grown K) [] E0 (tCons (tC (.int 1)) (tCons (tOp (rIxL K) (tVar 0) (tC (.int 0))) (tCons (tVar 1) tNil)))) (tOp (rIxL K) (tVar 0) (tC (.int 0)))) (gName 2))
  (tSeq (tFor (iList K (tFg (tCall (sp_made_to K) [] E0 (tCons (tSl (rSlL K) (tVar 0) (tPart (tC (.int 1))) tNoPart) (tCons (tVar 2) tNil))))) (gName 3) (tSeq (tIfS (tTest (tOp oLe (tVar 3) (tVar 1))) (tAsg (tOp oMul (tCall (sp_grown K) [] E0 (tCons (tVar 3) (tCons (tOp (rIxL K) (tVar 0) (tC (.int 0))) (tCons (tVar 1) tNil)))) (tOp (rIxL K) (tVar 0) (tC (.int 0)))) (gName 3)) tNext)
  (tAsg (tCB cMin (tCons (tVar 2) (tCons (tVar 3) tNil))) (gName 2))))
  (tRet (tVar 2)))))))
theorem r_next_oneX {K : PySem.W.Frag} {vs : List V} {H : Hp} {Q : VK} {E : XK} (h : sp_next_oneX K vs H Q E) : t_next_oneX K E { nx := fun _ H' => Q .non H', rt := Q } (start n_next_oneX vs) H := by
  obtain ⟨nd, v, x, rfl, h⟩ := h
  rcases h with h | ⟨bad, q⟩
  · obtain ⟨u, hu, g⟩ := r_next_one h
    exact ⟨u, hu, nd, u, rfl, .inl g⟩
  · exact fg_body (q_drop (ea_1 (ev_v 0) _ ⟨nd, _, rfl, .inr ⟨bad, q⟩⟩))
def sp_last_oneX (K : PySem.W.Frag) : Sp := fun vs H Q _ => Nod H ∧ ∃ v w : V, vs = [v, w] ∧ sp_last_one K [v, w] H Q E0
/-- slots: row number rest -/
abbrev n_last_oneX : List Str := ["row", "number", "rest"]
def t_last_oneX (K : PySem.W.Frag) : TS := (sFg (tSeq (tDrop (tCall (sp_need_rowX K) [] E0 (tCons (tVar 0) tNil)))
  (tSeq (tIfS (tTest (tOp oLt (tVar 1) (tC (.int 2)))) (tRet (tC .non)) tNext)
  (tRet (tFg (tCB (rMax K) (tCons (tFg (tLc (iList K (tFg (tCall (sp_made_to K) [] E0 (tCons (tSl (rSlL K) (tVar 0) (tPart (tC (.int 1))) tNoPart) (tCons (tOp oSub (tVar 1) (tC (.int 1))) tNil))))) (gName 2) tYes (tCall (sp_grown K) [] E0 (tCons (tVar 2) (tCons (tOp (rIxL K) (tVar 0) (tC (.int 0))) (tCons (tOp oSub (tVar 1) (tC (.int 1))) tNil)))) [2])) tNil)))))))
theorem r_last_oneX {K : PySem.W.Frag} {vs : List V} {H : Hp} {Q : VK} {E : XK} (h : sp_last_oneX K vs H Q E) : t_last_oneX K { nx := fun _ H' => Q .non H', rt := Q } (start n_last_oneX vs) H := by
  obtain ⟨nd, v, x, rfl, h⟩ := h
  obtain ⟨u, hu, g⟩ := r_last_one h
  exact ⟨u, hu, nd, u, rfl, .inl g⟩
def sp_nearestX (K : PySem.W.Frag) : Sp := fun vs H Q E => Nod H ∧ ∃ v w : V, vs = [v, w] ∧ (sp_nearest K [v, w] H Q E0 ∨ ((∃ i : Int, w = .int i) ∧ BadRow K H v ∧ E (npA K) none H))
/-- slots: row number above below -/
abbrev n_nearestX : List Str := ["row", "number", "above", "below"]
def t_nearestX (K : PySem.W.Frag) (E : XK) : TS := (sFg (tSeq (tAsg (tCallS (sp_next_oneX K) (WE (fun cls d _ H => E cls d H)) (tCons (tVar 0) (tCons (tOp oSub (tVar 1) (tC (.int 1))) tNil))) (gName 2))
  (tSeq (tAsg (tCall (sp_last_oneX K) [] E0 (tCons (tVar 0) (tCons (tOp oAdd (tVar 1) (tC (.int 1))) tNil))) (gName 3))
  (tSeq (tIfS (tTest (tOp oLe (tOp oSub (tVar 1) (tVar 3)) (tOp oSub (tVar 2) (tVar 1)))) (tRet (tVar 3)) tNext)
  (tRet (tVar 2))))))
theorem r_nearestX {K : PySem.W.Frag} {vs : List V} {H : Hp} {Q : VK} {E : XK} (h : sp_nearestX K vs H Q E) : t_nearestX K E { nx := fun _ H' => Q .non H', rt := Q } (start n_nearestX vs) H := by
  obtain ⟨nd, v, x, rfl, h⟩ := h
  rcases h with ⟨_, a, row, n, e, r, hn, hn2, q⟩ | ⟨⟨i, rfl⟩, bad, q⟩
  · cases e
    obtain ⟨h1, h2, h3, h4, h5⟩ := near_facts r.g r.ne hn
    have f1 := topN_next r.w r.ne (show n - 1 ≤ topN row by omega)
    have f2 : Fits (row.drop 1) (n + 1 - 1) := (topN_next r.w r.ne hn2).1.mono (by omega)
    unfold near at q
    refine fg_body (q_setW (ea_2 (ev_v 0) (ev_eq (y := .int ((n - 1 : Nat) : Int)) (ev_sub (i := (n : Int)) (ev_v 1) ev_c) (by congr 1; omega)) _ ⟨nd, _, _, rfl, .inl ⟨nd, a, row, n - 1, rfl, r.at_, r.w, r.ne, f1.1, f1.2, fun m hm => ?_⟩⟩))
    have em : nxt row (n - 1) = m := nxt_eq hm
    subst em
    refine q_set (v := .int (lst row (n + 1) : Int)) (ev_call (ea_2 (ev_v 0) (ev_eq (y := .int ((n + 1 : Nat) : Int)) (ev_add (i := (n : Int)) (ev_v 1) ev_c) rfl)) fun Q q => ⟨nd, _, _, rfl, nd, a, row, n + 1, rfl, r.at_, r.w, r.ne, f2, fun v hv => ?_⟩) ?_
    · rcases hv with ⟨z, _⟩ | ⟨m, _, hm, rfl⟩
      · omega
      · rw [← lst_eq hm]; exact q
    refine q_whenP (ep_le (i := (n : Int) - (lst row (n + 1) : Int)) (j := (nxt row (n - 1) : Int) - (n : Int)) (ev_sub (i := (n : Int)) (ev_v 1) (ev_v 3)) (ev_sub (i := (nxt row (n - 1) : Int)) (ev_v 2) (ev_v 1))) (fun hc => ?_) fun hc => ?_
    · rw [if_pos (by omega)] at q
      exact s_ret (ev_v 3) ⟨H, fg_same ex_refl, q⟩
    · rw [if_neg (by omega)] at q
      exact s_ret (ev_v 2) ⟨H, fg_same ex_refl, q⟩
  · exact fg_body (q_setW (ea_2 (ev_v 0) (ev_sub (i := i) (ev_v 1) ev_c) _ ⟨nd, _, _, rfl, .inr ⟨bad, q⟩⟩))
def sp_least_of_manyX (K : PySem.W.Frag) : Sp := fun vs H Q E => Nod H ∧ ∃ v w x : V, vs = [v, w, x] ∧ (sp_least_of_many K [v, w, x] H Q E0 ∨ (BadRow K H v ∧ E (npA K) none H))
/-- slots: row many number found -/
abbrev n_least_of_manyX : List Str := ["row", "many", "number", "found"]
def t_least_of_manyX (K : PySem.W.Frag) (E : XK) : TS := (sFg (tSeq (tDrop (tCallS (sp_is_made_ofX K) (WE (fun cls d _ H => E cls d H)) (tCons (tVar 0) (tCons (tC (.int 1)) tNil))))
  (tSeq (tAsg (tCall (sp_least_from K) [] E0 (tCons (tVar 0) (tCons (tVar 1) (tCons (tVar 2) tNil)))) (gName 3))
  (tSeq (tIfS (tOr (tTest (tOp oIsN (tVar 3) (tC .non))) (tTest (tOp oGt (tVar 3) (tC (.int 1000000000000000000000000000000))))) (tRet (tC .non)) tNext)
  (tRet (tVar 3))))))
theorem r_least_of_manyX {K : PySem.W.Frag} {vs : List V} {H : Hp} {Q : VK} {E : XK} (h : sp_least_of_manyX K vs H Q E) : t_least_of_manyX K E { nx := fun _ H' => Q .non H', rt := Q } (start n_least_of_manyX vs) H := by
  obtain ⟨nd, v, w, x, rfl, h⟩ := h
  rcases h with h | ⟨bad, q⟩
  · obtain ⟨u, hu, g⟩ := r_least_of_many h
    exact ⟨u, hu, nd, u, .int 1, rfl, .inl g⟩
  · exact fg_body (q_drop (ea_2 (ev_v 0) ev_c _ ⟨nd, _, _, rfl, .inr ⟨bad, q⟩⟩))
end Px
set_option Elab.async false
set_option linter.all false
set_option maxRecDepth 100000
set_option maxHeartbeats 4000000
namespace Px
open PySem L2 MA
section
variable {K : PySem.W.Frag} {σ : L2.St} {H : Hp} {ta te : TE}
theorem zl_lt {ns : List Int} {l : List Nat} (h : ∀ k, k ∈ ns ↔ k ∈ zl l) (hp : ns.Pairwise (· < ·)) : ∃ l' : List Nat, ns = zl l' ∧ l'.Pairwise (· < ·) ∧ ∀ n, n ∈ l' ↔ n ∈ l := by
  have h0 : ∀ k ∈ ns, ((k.toNat : Nat) : Int) = k := fun k hk => by
    obtain ⟨n, _, rfl⟩ := List.mem_map.mp ((h k).mp hk)
    simp
  have e : ns = zl (ns.map Int.toNat) := by
    show ns = (ns.map Int.toNat).map (fun (x : Nat) => (x : Int))
    rw [List.map_map]
    exact (List.map_congr_left (g := id) (fun k hk => h0 k hk)).trans (List.map_id _) |>.symm
  refine ⟨ns.map Int.toNat, e, ?_, fun n => ?_⟩
  · rw [List.pairwise_map]
    refine hp.imp_of_mem fun {x y} hx hy hxy => ?_
    have := h0 x hx
    have := h0 y hy
    omega
  · constructor
    · intro hn
      obtain ⟨k, hk, rfl⟩ := List.mem_map.mp hn
      obtain ⟨n, hn, e⟩ := List.mem_map.mp ((h k).mp hk)
      rw [← e]; simpa using hn
    · intro hn
      exact List.mem_map.mpr ⟨(n : Int), (h _).mpr (List.mem_map.mpr ⟨n, hn, rfl⟩), by simp⟩
theorem w_sortSet {a : Addr} {l : List Nat} {Q : VK} (h : Ev te σ H (.ref a)) (hx : SqL K H a (zv l)) (hz : l.length ≤ 4000) (k : ∀ p l', H p = none → l'.Pairwise (· < ·) → (∀ n, n ∈ l' ↔ n ∈ l) → Q (.ref p) (upd H p (.lst (zv l')))) : tSortSet K (tCons te tNil) σ H Q :=
  ea_1 h _ ⟨a, zl l, rfl, hx, by rw [zl_len]; exact hz, fun p ns' hp hw hk => by
    obtain ⟨l', rfl, h1, h2⟩ := zl_lt hk hw
    exact k p l' hp h1 h2⟩
end
end Px
set_option Elab.async false
set_option linter.all false
set_option maxRecDepth 100000
set_option maxHeartbeats 4000000
namespace Px
open PySem L2 MA
def SS (K : PySem.W.Frag) (vs : List V) (H : Hp) (Q : VK) : Prop := ∃ (a : Addr) (ns : List Int), vs = [.ref a] ∧ SqL K H a (ns.map V.int) ∧ ns.length ≤ 4000 ∧
  ∀ (p : Addr) (ns' : List Int), H p = none → ns'.Pairwise (· < ·) → (∀ k, k ∈ ns' ↔ k ∈ ns) → Q (.ref p) (upd H p (.lst (ns'.map V.int)))
section
variable {K : PySem.W.Frag} {σ : L2.St} {H : Hp} {ta tb te : TE} {Q : VK}
theorem w_ssW (h : te σ H fun v H1 => SS K [v] H1 Q) : tSortSet K (tCons te tNil) σ H Q := h
theorem ss_of {a : Addr} {l : List Nat} (hx : SqL K H a (zv l)) (hz : l.length ≤ 4000) (k : ∀ p l', H p = none → l'.Pairwise (· < ·) → (∀ n, n ∈ l' ↔ n ∈ l) → Q (.ref p) (upd H p (.lst (zv l')))) : SS K [.ref a] H Q :=
  ⟨a, zl l, rfl, hx, by rw [zl_len]; exact hz, fun p ns' hp hw hk => by
    obtain ⟨l', rfl, h1, h2⟩ := zl_lt hk hw
    exact k p l' hp h1 h2⟩
theorem w_next {D : Ends} (h : D.nx σ H) : tNext D σ H := h
theorem w_slW {tl th : TO} (h : te σ H fun x H1 => tl σ H1 fun lo H2 => th σ H2 fun hi H3 => rSlL K x lo hi H3 Q) : tSl (rSlL K) te tl th σ H Q := h
/-- a test that leaves something behind: what holds behind it is told once -/
theorem w_via {T : (Bool → Hp → Prop) → Prop} {R : Bool → Hp → Prop} (I : Hp → Prop) (b : Bool) (h : ∀ R' : Bool → Hp → Prop, (∀ H5, I H5 → R' b H5) → T R') (k : ∀ H5, I H5 → R b H5) : T R := h R k
theorem ev_in {l : List Nat} {x : Nat} {p : Addr} (ha : Ev ta σ H (.int (x : Int))) (hb : Ev tb σ H (.ref p)) (s : SqL K H p (zv l)) : Ev (tOp (rIn K false) ta tb) σ H (.bl (decide (x ∈ l))) :=
  ev_op ha hb fun Q q => ⟨p, zv l, rfl, .inl s, rfl, zv_flat _, by
    rw [inV_iff]
    exact q⟩
theorem ev_nin {l : List Nat} {x : Nat} {p : Addr} (ha : Ev ta σ H (.int (x : Int))) (hb : Ev tb σ H (.ref p)) (s : SqL K H p (zv l)) : Ev (tOp (rIn K true) ta tb) σ H (.bl (!decide (x ∈ l))) :=
  ev_op ha hb fun Q q => ⟨p, zv l, rfl, .inl s, rfl, zv_flat _, by
    rw [inV_iff]
    exact q⟩
end
/-- filters by a test of naturals -/
theorem filt_nat (P : Nat → Bool) (p : Int → Bool) : ∀ l : List Nat, (∀ x ∈ l, p (x : Int) = P x) → (((zl l).filter p).map fun j => j) = zl (l.filter P)
  | [], _ => rfl
  | y :: r, hp => by
    have ih := filt_nat P p r fun x hx => hp x (List.mem_cons_of_mem _ hx)
    show ((((y : Int) :: zl r).filter p).map fun j => j) = _
    have e := hp y List.mem_cons_self
    by_cases h : P y = true
    · rw [List.filter_cons_of_pos (by rw [e]; exact h), List.filter_cons_of_pos h, List.map_cons, ih]; rfl
    · rw [List.filter_cons_of_neg (by rw [e]; exact h), List.filter_cons_of_neg h, ih]
end Px
set_option Elab.async false
set_option linter.all false
set_option maxRecDepth 100000
set_option maxHeartbeats 4000000
namespace Px
open PySem L2
section
variable {K : PySem.W.Frag} {σ : L2.St} {H : Hp} {te : TE} {Q : VK} {D : Ends} {s1 s2 s3 : TS}
/-- what holds behind one statement, behind two -/
theorem q_oneI (I : L2.St → Hp → Prop) (h : ∀ N : L2.St → Hp → Prop, (∀ σ' H', I σ' H' → N σ' H') → s1 { D with nx := N } σ H) (k : ∀ σ' H', I σ' H' → s2 D σ' H') : tSeq s1 s2 D σ H := h _ k
theorem q_twoI (I : L2.St → Hp → Prop) (h : ∀ N : L2.St → Hp → Prop, (∀ σ' H', I σ' H' → N σ' H') → tSeq s1 s2 { D with nx := N } σ H) (k : ∀ σ' H', I σ' H' → s3 D σ' H') : tSeq s1 (tSeq s2 s3) D σ H := h _ k
theorem w_rev (h : te σ H fun x H1 => ∃ a xs, x = .ref a ∧ SqL K H1 a xs ∧ ∀ p, H1 p = none → Q (.ref p) (upd H1 p (.lst xs.reverse))) : tRevL K te σ H Q := h
end
end Px
set_option Elab.async false
set_option linter.all false
set_option maxRecDepth 100000
set_option maxHeartbeats 4000000
namespace Px
open PySem L2 MA
/-! ### a wider base -/
open Classical in
noncomputable def keepS (B H' : Hp) (S : List Addr) : Hp := fun a => if a ∈ S then H' a else B a
section
variable {K : PySem.W.Frag} {B B' H H' : Hp} {L : List (Addr × List V)} {S : List Addr}
theorem keepS_in {b : Addr} (h : b ∈ S) : keepS B H' S b = H' b := if_pos h
theorem keepS_off {b : Addr} (h : b ∉ S) : keepS B H' S b = B b := if_neg h
theorem keepS_ex (hS : ∀ b ∈ S, B b = none) : Ex B (keepS B H' S) := fun b o h => by rw [keepS_off (fun z => by rw [hS b z] at h; cases h)]; exact h
theorem keepS_sub (e : Ex B H') : Ex (keepS B H' S) H' := fun b o h => by
  by_cases z : b ∈ S
  · rw [keepS_in z] at h; exact h
  · rw [keepS_off z] at h; exact e b o h
theorem Own.keepB (o : Own B L H) (e : Ex H H') (n : Nod H') (S : List Addr) (hS : ∀ b ∈ S, H b = none) : Own (keepS B H' S) L H' where
  nod := n
  ex := keepS_sub (ex_trans o.ex e)
  off := fun q hq => by
    rw [keepS_off (fun z => by have := o.has q hq; rw [hS _ z] at this; cases this)]
    exact o.off q hq
  dis := o.dis
  has := fun q hq => e _ _ (o.has q hq)
theorem Own.weak (o : Own B' L H) (e : Ex B B') : Own B L H where
  nod := o.nod
  ex := ex_trans e o.ex
  off := fun q hq => ex_none e (o.off q hq)
  dis := o.dis
  has := o.has
theorem fg_keepS [n : Nod H] (e : Ex H H') (hS : ∀ b ∈ S, H b = none ∧ ∃ o, fresh o ∧ H' b = some o) : Fg H H' (keepS H H' S) := by
  refine fg_gen (fun a => a ∈ S) (fun a o h z => ⟨e a o h, by rw [keepS_off z]; exact h⟩) (fun a z => ?_) (fun a h z => by rw [keepS_off z]; exact h)
  obtain ⟨h0, o, f, h1⟩ := hS a z
  exact ⟨o, f, h1, by rw [keepS_in z]; exact h1, fun u hu => by rw [h0] at hu; cases hu⟩
theorem keepS_nod [n : Nod H] (hS : ∀ b ∈ S, ∃ o, fresh o ∧ H' b = some o) : Nod (keepS H H' S) := ⟨fun a o h => by
  by_cases z : a ∈ S
  · rw [keepS_in z] at h
    obtain ⟨u, f, e⟩ := hS a z
    rw [e] at h; cases h
    exact fresh_flat f
  · rw [keepS_off z] at h; exact n.nod a o h⟩
end
/-! ### a list of pairs of ints -/
abbrev pvals (q : Int × Int) : List V := [.int q.1, .int q.2]
structure Prs (H : Hp) (p : Addr) (as : List Addr) (qs : List (Int × Int)) : Prop where
  lst : H p = some (.lst (as.map V.ref))
  len : as.length = qs.length
  tup : ∀ (i : Nat) (b : Addr) (q : Int × Int), as[i]? = some b → qs[i]? = some q → H b = some (.tup (pvals q))
theorem Prs.ex {H H' : Hp} {p : Addr} {as : List Addr} {qs : List (Int × Int)} (c : Prs H p as qs) (e : Ex H H') : Prs H' p as qs := ⟨e _ _ c.lst, c.len, fun i b x h1 h2 => e _ _ (c.tup i b x h1 h2)⟩
theorem Prs.keep {B H' : Hp} {p : Addr} {as S : List Addr} {qs : List (Int × Int)} (c : Prs H' p as qs) (h1 : p ∈ S) (h2 : ∀ b ∈ as, b ∈ S) : Prs (keepS B H' S) p as qs := ⟨by rw [keepS_in h1]; exact c.lst, c.len, fun i b x e1 e2 => by rw [keepS_in (h2 b (List.mem_of_getElem? e1))]; exact c.tup i b x e1 e2⟩
theorem Prs.all {H : Hp} {p : Addr} {as : List Addr} {qs : List (Int × Int)} (c : Prs H p as qs) : ∀ b ∈ p :: as, ∃ o, fresh o ∧ H b = some o := fun b hb => by
  rcases List.mem_cons.mp hb with rfl | hb
  · exact ⟨.lst (as.map V.ref), trivial, c.lst⟩
  · obtain ⟨i, hi⟩ := List.mem_iff_getElem?.mp hb
    have hlt : i < qs.length := by rw [← c.len]; exact (List.getElem?_eq_some_iff.mp hi).1
    exact ⟨.tup (pvals qs[i]), trivial, c.tup i b _ hi (List.getElem?_eq_getElem hlt)⟩
theorem Prs.get {H : Hp} {p : Addr} {as : List Addr} {qs : List (Int × Int)} (c : Prs H p as qs) {i : Nat} {v : V} (h : (as.map V.ref)[i]? = some v) : ∃ (b : Addr) (q : Int × Int), as[i]? = some b ∧ v = .ref b ∧ qs[i]? = some q ∧ H b = some (.tup (pvals q)) := by
  rw [List.getElem?_map] at h
  cases e : as[i]? with
  | none => rw [e] at h; cases h
  | some b =>
    rw [e] at h
    cases h
    have hlt : i < qs.length := by rw [← c.len]; exact (List.getElem?_eq_some_iff.mp e).1
    exact ⟨b, qs[i], rfl, rfl, List.getElem?_eq_getElem hlt, c.tup i b _ e (List.getElem?_eq_getElem hlt)⟩
abbrev pd (q : Int × Int) : PyData := .tuple [.int q.1, .int q.2]
theorem lay_pairs : ∀ qs : List (Int × Int), PyData.canLayAll0 (qs.map pd) = true
  | [] => by simp [PyData.canLayAll0]
  | q :: r => by simp [PyData.canLayAll0, PyData.canLay0, lay_pairs r]
theorem dep_pairs : ∀ qs : List (Int × Int), PyData.depthAll (qs.map pd) ≤ 1
  | [] => by simp [PyData.depthAll]
  | q :: r => by
    have := dep_pairs r
    simp [PyData.depthAll, PyData.depth, this]
theorem shaped_pairs (qs : List (Int × Int)) : SeqAt.shaped (.list (qs.map pd)) = true := by
  unfold SeqAt.shaped
  have := dep_pairs qs
  rw [PyData.canLay0, lay_pairs, PyData.depth]
  simp only [Bool.true_and, decide_eq_true_eq]
  omega
theorem shaped_pair (q : Int × Int) : SeqAt.shaped (pd q) = true := by
  unfold SeqAt.shaped
  simp [PyData.canLay0, PyData.canLayAll0, PyData.depth, PyData.depthAll]
theorem eqv_pair (q q' : Int × Int) : PyData.eqv (pd q) (pd q') = decide (q = q') := by
  obtain ⟨a, b⟩ := q
  obtain ⟨c, d⟩ := q'
  simp only [PyData.eqv, PyData.eqvAll]
  by_cases h : a = c
  · subst h
    by_cases h2 : b = d
    · subst h2; simp
    · simp [h2]
  · simp [h]
theorem eqv_pairs : ∀ qs qs' : List (Int × Int), PyData.eqvAll (qs.map pd) (qs'.map pd) = decide (qs = qs')
  | [], [] => by simp [PyData.eqvAll]
  | [], _ :: _ => by simp [PyData.eqvAll]
  | _ :: _, [] => by simp [PyData.eqvAll]
  | q :: r, q' :: r' => by
    simp only [List.map_cons, PyData.eqvAll, eqv_pair, eqv_pairs r r']
    by_cases h : q = q'
    · subst h
      by_cases h2 : r = r'
      · subst h2; simp
      · simp [h2]
    · simp [h]
section
variable {K : PySem.W.Frag} {σ : L2.St} {H : Hp}
theorem dp_pair {b : Addr} {q : Int × Int} (h : H b = some (.tup (pvals q))) : Dp K H (.ref b) (pd q) := .tup (st_at h) (.cons (.int _) (.cons (.int _) .nil))
theorem dp_pairs : ∀ (as : List Addr) (qs : List (Int × Int)), as.length = qs.length → (∀ (i : Nat) (b : Addr) (q : Int × Int), as[i]? = some b → qs[i]? = some q → H b = some (.tup (pvals q))) → DpAll K H (as.map V.ref) (qs.map pd)
  | [], [], _, _ => .nil
  | [], _ :: _, h, _ => by cases h
  | _ :: _, [], h, _ => by cases h
  | b :: as, q :: qs, h, hs => .cons (dp_pair (hs 0 b q rfl rfl)) (dp_pairs as qs (by simpa using h) fun i b' q' h1 h2 => hs (i + 1) b' q' (by simpa using h1) (by simpa using h2))
theorem Prs.dp {p : Addr} {as : List Addr} {qs : List (Int × Int)} (c : Prs H p as qs) : Dp K H (.ref p) (.list (qs.map pd)) := .lst (sq_at c.lst) (dp_pairs as qs c.len c.tup)
theorem rv_eqP {a b : Addr} {as bs : List Addr} {qs qs' : List (Int × Int)} (ha : Prs H a as qs) (hb : Prs H b bs qs') : RV (rEqD K) (.ref a) (.ref b) H (.bl (decide (qs = qs'))) := fun Q q =>
  ⟨_, _, ha.dp, hb.dp, shaped_pairs qs, shaped_pairs qs', by rw [PyData.eqv, eqv_pairs]; exact q⟩
theorem rv_neP {a b : Addr} {as bs : List Addr} {qs qs' : List (Int × Int)} (ha : Prs H a as qs) (hb : Prs H b bs qs') : RV (rNeD K) (.ref a) (.ref b) H (.bl (!decide (qs = qs'))) := fun Q q =>
  ⟨_, _, ha.dp, hb.dp, shaped_pairs qs, shaped_pairs qs', by rw [PyData.eqv, eqv_pairs]; exact q⟩
theorem rv_neT {a b : Addr} {q q' : Int × Int} (ha : H a = some (.tup (pvals q))) (hb : H b = some (.tup (pvals q'))) : RV (rNeD K) (.ref a) (.ref b) H (.bl (!decide (q = q'))) := fun Q z =>
  ⟨_, _, dp_pair ha, dp_pair hb, shaped_pair q, shaped_pair q', by rw [eqv_pair]; exact z⟩
theorem Prs.nil {p : Addr} (h : H p = some (.lst [])) : Prs H p [] [] := ⟨h, rfl, fun i b q h1 _ => by simp at h1⟩
/-- a comprehension over a list, any target -/
theorem w_lcG {tl te : TE} {t : TT} {g : TG} {Q : VK} {a : Addr} {xs : List V} {vs : List Nat} (h : Ev tl σ H (.ref a)) (hx : SqL K H a xs) (Pv : Addr → Nat → Hp → Prop) (h0 : ∀ D, H D = none → Pv D 0 (upd H D (.lst []))) (hl : ∀ D i H', H D = none → Pv D i H' → SqL K H' a xs)
    (hs : ∀ D (i : Nat) x H', H D = none → xs[i]? = some x → Pv D i H' → g x (wipe σ vs) H' fun σ2 H2 => wipe σ2 vs = wipe σ vs ∧ t σ2 H2 fun b H3 => if b = true then te σ2 H3 fun y H4 => ∃ acc, H4 D = some (.lst acc) ∧ acc.length < sizeLine ∧ Pv D (i + 1) (upd H4 D (.lst (acc ++ [y]))) else Pv D (i + 1) H3)
    (hd : ∀ D H', H D = none → Pv D xs.length H' → Q (.ref D) H') : tLc (iList K tl) g t te vs σ H Q := h _ ⟨a, rfl, ⟨xs, hx⟩, fun D hD =>
  lc_list (xs := xs) (Pv D) (h0 D hD) (fun i H' _ hv => hl D i H' hD hv) (fun i x H' hi hv => hs D i x H' hD hi hv) (fun H' hv => hd D H' hD hv)⟩
theorem lcat_list {te : TE} {t : TT} {g : TG} {Q : VK} {a : Addr} {xs : List V} {vs : List Nat} {H1 : Hp} (Pv : Addr → Nat → Hp → Prop) (h0 : ∀ D, H1 D = none → Pv D 0 (upd H1 D (.lst []))) (hl : ∀ D i H', H1 D = none → Pv D i H' → SqL K H' a xs)
    (hs : ∀ D (i : Nat) x H', H1 D = none → xs[i]? = some x → Pv D i H' → g x (wipe σ vs) H' fun σ2 H2 => wipe σ2 vs = wipe σ vs ∧ t σ2 H2 fun b H3 => if b = true then te σ2 H3 fun y H4 => ∃ acc, H4 D = some (.lst acc) ∧ acc.length < sizeLine ∧ Pv D (i + 1) (upd H4 D (.lst (acc ++ [y]))) else Pv D (i + 1) H3)
    (hd : ∀ D H', H1 D = none → Pv D xs.length H' → Q (.ref D) H') : LcAt (Itl K a) g t te vs σ Q H1 := fun D hD =>
  lc_list (xs := xs) (Pv D) (h0 D hD) (fun i H' _ hv => hl D i H' hD hv) (fun i x H' hi hv => hs D i x H' hD hi hv) (fun H' hv => hd D H' hD hv)
/-- [part for part in t if ..], t a tuple -/
theorem w_lcT {tl te : TE} {t : TT} {Q : VK} {a : Addr} {xs : List V} {vs : List Nat} {n : Nat} (h : Ev tl σ H (.ref a)) (hx : SqT K H a xs) (Pv : Addr → Nat → Hp → Prop) (h0 : ∀ D, H D = none → Pv D 0 (upd H D (.lst []))) (hl : ∀ D i H', H D = none → Pv D i H' → SqT K H' a xs) (hw : ∀ x, wipe ((wipe σ vs).set n (some x)) vs = wipe σ vs)
    (hs : ∀ D (i : Nat) x H', H D = none → xs[i]? = some x → Pv D i H' → t ((wipe σ vs).set n (some x)) H' fun b H3 => if b = true then te ((wipe σ vs).set n (some x)) H3 fun y H4 => ∃ acc, H4 D = some (.lst acc) ∧ acc.length < sizeLine ∧ Pv D (i + 1) (upd H4 D (.lst (acc ++ [y]))) else Pv D (i + 1) H3)
    (hd : ∀ D H', H D = none → Pv D xs.length H' → Q (.ref D) H') : tLc (iTup K tl) (gName n) t te vs σ H Q := h _ ⟨a, rfl, ⟨xs, hx⟩, fun D hD =>
  lc_tup (xs := xs) (Pv D) (h0 D hD) (fun i H' _ hv => hl D i H' hD hv) (fun i x H' hi hv => ⟨hw x, hs D i x H' hD hi hv⟩) (fun H' hv => hd D H' hD hv)⟩
theorem w_tupW {t : TA} {Q : VK} (h : t σ H fun xs H1 => xs.length ≤ sizeLine ∧ ∀ p, H1 p = none → Q (.ref p) (upd H1 p (.tup xs))) : tTup t σ H Q := h
/-- a, b = t: the target of a for, of a comprehension, over pairs -/
theorem g_pair {n1 n2 : Nat} {b : Addr} {q : Int × Int} {Q : L2.St → Hp → Prop} (h : H b = some (.tup (pvals q))) (k : Q ((σ.set n1 (some (.int q.1))).set n2 (some (.int q.2))) H) : gTup K 2 (gCons (gName n1) (gCons (gName n2) gNil)) (.ref b) σ H Q :=
  ⟨b, _, rfl, st_at h, rfl, _, _, rfl, _, _, rfl, rfl, k⟩
end
theorem Own.tupB {B H : Hp} {L : List (Addr × List V)} {t : Addr} {xs : List V} (o : Own B L H) (ht : H t = none) : Own (upd B t (.tup xs)) L (upd H t (.tup xs)) where
  nod := have := o.nod; inferInstance
  ex := fun b u hb => by
    by_cases e : b = t
    · subst e; rw [upd_same] at hb ⊢; exact hb
    · rw [upd_ne e] at hb ⊢; exact o.ex b u hb
  off := fun q hq => by rw [upd_ne (ne_of_none (o.has q hq) ht)]; exact o.off q hq
  dis := o.dis
  has := fun q hq => by rw [upd_ne (ne_of_none (o.has q hq) ht)]; exact o.has q hq
end Px
set_option Elab.async false
set_option linter.all false
set_option maxRecDepth 100000
set_option maxHeartbeats 4000000
/-! dicts of ints: d.items(), sorted(d.items()), sorted(d), any number of entries -/
namespace Px
open PySem PySem.Spec PyProof.Rows L2
section
variable {X : Cx}
def rItemsK : V → List V → Hp → VK → Prop := fun x xs H Q => ∃ (a : Addr) (kvs : List (Key × V)), x = .ref a ∧ xs = [] ∧ H a = some (.dK kvs) ∧ ∀ p, H p = none → Q (.ref p) (upd H p (L2.DX.itemsO p a))
theorem mt_itemsK : MtR X "dict.items" rItemsK := by
  intro pins s σ H x xs v us Q I rx rxs h
  obtain ⟨a, kvs, rfl, rfl, ha, q⟩ := h
  cases rx
  cases rxs
  obtain ⟨z, hd, vs, rel, dd⟩ := dk_of I.hok ha
  obtain ⟨es, ep, ⟨o, ho, hx, hdat⟩, _, _⟩ := Heap.DictOf.raw dd
  refine DT.callItems (es := es) (ep := ep) hd ⟨o, ho, hx, hdat⟩ ?_
  have hf : H s.heap.objs.size = none := I.hok.fresh (Nat.le_refl _)
  exact ⟨.ref s.heap.objs.size, upd H s.heap.objs.size (L2.DX.itemsO s.heap.objs.size a), I.laid (t' := s.toks) (fun b u e => Heap.get?_push_of_some _ e) (Nat.le_refl _) (L2.DX.itemsO_ok (Heap.get?_push_size _ rfl)), rfl, q _ hf⟩
/-- tuples already laid are tracked -/
theorem takeT2 {pins : List (Addr × Obj)} {σ : L2.St} {H0 : Hp} {s : Shared} {h' : Heap} {tk : Nat} {f : Addr → List V} (I0 : Inv X pins σ H0 s) : ∀ (L : List Addr) (H1 : Hp), Inv X pins σ H1 { s with heap := h', toks := tk } → L.Nodup →
    (∀ a ∈ L, s.heap.objs.size ≤ a ∧ H1 a = none ∧ ∀ H2, ObjOk X.prog X.w H2 h' a (.tup (f a))) →
    ∃ H2, Inv X pins σ H2 { s with heap := h', toks := tk } ∧ (∀ b, b ∉ L → H2 b = H1 b) ∧ ∀ a ∈ L, H2 a = some (.tup (f a))
  | [], H1, I1, _, _ => ⟨H1, I1, fun _ _ => rfl, fun _ h => nomatch h⟩
  | a :: L, H1, I1, hn, h => by
    obtain ⟨hb, hnone, ok⟩ := h a (List.mem_cons_self ..)
    have I2 : Inv X pins σ (upd H1 a (.tup (f a))) { s with heap := h', toks := tk } := I1.take (h' := h') (t' := tk) (fun b ob _ e => e) (I0.fpOk hb hnone) (ok _)
    rw [List.nodup_cons] at hn
    obtain ⟨H2, I3, g, q⟩ := takeT2 I0 L (upd H1 a (.tup (f a))) I2 hn.2 fun c hc => by
      obtain ⟨c1, c2, c3⟩ := h c (List.mem_cons_of_mem _ hc)
      exact ⟨c1, by rw [upd_ne (fun z => hn.1 (by rw [← z]; exact hc))]; exact c2, c3⟩
    refine ⟨H2, I3, fun b hb => ?_, fun c hc => ?_⟩
    · rw [g b (fun z => hb (List.mem_cons_of_mem _ z)), upd_ne (fun z => hb (by rw [z]; exact List.mem_cons_self))]
    · rcases List.mem_cons.mp hc with rfl | hc
      · rw [g _ hn.1, upd_same]
      · exact q c hc
abbrev pK (q : Int × Int) : Key × V := (Sum.inl q.1, V.int q.2)
/-- sorted(d.items()), keys and values ints -/
def rSortItK : List V → Hp → VK → Prop := fun vs H Q => ∃ (p a : Addr) (qs : List (Int × Int)), vs = [.ref p] ∧ H p = some (L2.DX.itemsO p a) ∧ H a = some (.dK (qs.map pK)) ∧
  ∀ (H' : Hp) (l : Addr) (as : List Addr) (qs' : List (Int × Int)), qs'.Perm qs → qs'.Pairwise (fun x y => x.1 ≤ y.1) → H l = none → (∀ b ∈ as, H b = none) → Ex H H' → (Nod H → Nod H') → H' l = some (.lst (as.map V.ref)) → as.length = qs'.length →
    (∀ (i : Nat) (b : Addr) (q : Int × Int), as[i]? = some b → qs'[i]? = some q → H' b = some (.tup [.int q.1, .int q.2])) → Q (.ref l) H'
theorem cr_sortItK (hc : X.calm = true) : CallR X (.builtin "sorted") rSortItK := by
  intro pins s σ H xs us Q I r h
  obtain ⟨p, a, qs, rfl, hp, ha, q⟩ := h
  obtain rfl := Vals.ref1 r
  have view : s.heap.IsItemsView p a := (show ObjOk X.prog X.w H s.heap p (L2.DX.itemsO p a) from I.hok p _ hp).1
  obtain ⟨z, hd, vs, rel, dd⟩ := dk_of I.hok ha
  obtain ⟨es, ep, raw, hsz, hent⟩ := Heap.DictOf.raw dd
  have hlen : qs.length = vs.length := by have := rel.length; rw [List.length_map] at this; exact this
  rw [List.length_map] at z
  have hh : X.A.handled = none := I.ok.hd hc
  refine DT.sortedI (es := es) (ep := ep) hh view raw (by omega) fun h' tk as hk hlt hl hG => ?_
  have lak : as.length = qs.length := by omega
  have nd : as.Nodup := List.Pairwise.imp (fun h => Nat.ne_of_lt h) hG.rise
  have pr : ∀ (j : Nat) (b : Addr), as[j]? = some b → ∃ (z : Int × Int) (t u : Tok), qs[j]? = some z ∧ h'.get? b = some { cls := .type "tuple", data := .seq #[Value.int z.1 t, Value.int z.2 u] } := by
    intro j b hj
    obtain ⟨en, he, hg⟩ := hG.pairs j b hj
    have hji : j < es.size := (Array.getElem?_eq_some_iff.mp he).1
    have hen : es[j] = en := (Array.getElem?_eq_some_iff.mp he).2
    have hjv : j < vs.length := by omega
    have hv : vs[j]? = some (vs[j].1, vs[j].2) := List.getElem?_eq_getElem hjv
    obtain ⟨e1, e2⟩ := hent j hji _ _ hv
    obtain ⟨x, ex, rx⟩ := KV.at' rel hv
    rw [List.getElem?_map] at ex
    cases eq : qs[j]? with
    | none => rw [eq] at ex; cases ex
    | some z =>
      rw [eq] at ex
      have e3 : pK z = (vs[j].1, x) := Option.some.inj ex
      have e4 : vs[j].1 = Sum.inl z.1 := (congrArg Prod.fst e3).symm
      have e5 : x = V.int z.2 := (congrArg Prod.snd e3).symm
      rw [e4] at e1
      rw [e5] at rx
      obtain ⟨u, eu⟩ := rx
      rw [hen] at e1 e2
      rcases keyIs_shape (show keyIs (Sum.inl z.1) en.key = true from e1) with ⟨i, t, ek, ev⟩ | ⟨y, t, ek, ev⟩
      · cases ek
        exact ⟨z, t, u, rfl, by rw [hg, ev, e2, eu]⟩
      · cases ek
  -- the numbers of each pair
  let kk : Addr → Int × Int := fun b => qs.getD (as.idxOf b) (0, 0)
  have hkk : ∀ (j : Nat) (b : Addr) (z : Int × Int), as[j]? = some b → qs[j]? = some z → kk b = z := fun j b z h1 h2 => by
    obtain ⟨hj, e⟩ := List.getElem?_eq_some_iff.mp h1
    show qs.getD (as.idxOf b) (0, 0) = z
    rw [← e, nd.idxOf_getElem j hj, List.getD_eq_getElem?_getD, h2]
    rfl
  have kmap : as.map kk = qs := by
    refine List.ext_getElem? fun j => ?_
    rw [List.getElem?_map]
    cases e : as[j]? with
    | none =>
      have : as.length ≤ j := List.getElem?_eq_none_iff.mp e
      rw [List.getElem?_eq_none (by omega)]
      rfl
    | some b =>
      obtain ⟨z, _, _, hz, _⟩ := pr j b e
      rw [hz]
      exact congrArg some (hkk j b z e hz)
  have pin : ∀ b ∈ as, ∃ (t u : Tok), h'.get? b = some { cls := .type "tuple", data := .seq #[Value.int (kk b).1 t, Value.int (kk b).2 u] } := fun b hb => by
    obtain ⟨j, hj⟩ := List.mem_iff_getElem?.mp hb
    obtain ⟨z, t, u, hz, hg⟩ := pr j b hj
    rw [hkk j b z hj hz]
    exact ⟨t, u, hg⟩
  have hob : (h'.push { cls := .type "list", data := .seq (as.map Value.ref).toArray }).get? h'.objs.size = some (seqObj "list" (as.map Value.ref).toArray 0) := Heap.get?_push_size _ rfl
  have ka : ∀ b o, h'.get? b = some o → (h'.push { cls := .type "list", data := .seq (as.map Value.ref).toArray }).get? b = some o := fun b o e => Heap.get?_push_of_some _ e
  have ne0 : ∀ b o, h'.get? b = some o → b ≠ h'.objs.size := fun b o e => Nat.ne_of_lt (Heap.lt_size e)
  generalize hh2 : h'.push { cls := .type "list", data := .seq (as.map Value.ref).toArray } = h2 at hob ka ⊢
  let kv : Value → Int × Int := fun v => match v with | .ref b => kk b | _ => (0, 0)
  have hpairs : ∀ v ∈ as.map Value.ref, Srt.IsPair h2 v (kv v).1 (kv v).2 := fun v hv => by
    obtain ⟨b, hb, rfl⟩ := List.mem_map.mp hv
    obtain ⟨t, u, hg⟩ := pin b hb
    exact ⟨b, _, t, u, 0, rfl, ka _ _ hg, rfl, rfl⟩
  refine wpAny_call_entry PyProof.Rows.slot_list_sort ⟨_, hob, rfl⟩ PyProof.Rows.entry_list_sort
    (SrtO.list_sort_ord (s := { s with heap := h2, toks := tk }) (SrtO.swo_lex kv) hob (by rw [List.length_map]; omega) (fun h2' => SrtO.pairs_sortableO (by omega) hpairs fun o e => ?_) fun out h1 h2s => ⟨.none, rfl, ?_⟩) (PyProof.Rows.args_list_sort _)
  · have e' : some o = some (seqObj "list" (as.map Value.ref).toArray 0) := e.symm.trans hob
    cases e'
    intro c
    exact absurd (Value.type.inj c) (by decide)
  · obtain ⟨zs, rfl⟩ : ∃ zs : List Addr, out = zs.map Value.ref := by
      have h3 : ∀ u ∈ out, ∃ b, u = Value.ref b := fun u hu => by
        obtain ⟨b, _, e⟩ := List.mem_map.mp (h2s.perm.mem_iff.mp hu)
        exact ⟨b, e.symm⟩
      clear h1 h2s
      induction out with
      | nil => exact ⟨[], rfl⟩
      | cons u out ih =>
        obtain ⟨zs, e⟩ := ih fun w hw => h3 w (List.mem_cons_of_mem _ hw)
        obtain ⟨b, rfl⟩ := h3 u List.mem_cons_self
        exact ⟨b :: zs, by rw [e]; rfl⟩
    have pz : zs.Perm as := by
      have := h2s.perm.map (fun v : Value => match v with | .ref b => b | _ => 0)
      rw [List.map_map, List.map_map] at this
      have e1 : ∀ l : List Addr, l.map ((fun v : Value => match v with | .ref b => b | _ => 0) ∘ Value.ref) = l := fun l => by
        induction l with
        | nil => rfl
        | cons x l ih => rw [List.map_cons, ih]; rfl
      rw [e1, e1] at this
      exact this
    have hsort : (zs.map kk).Pairwise (fun x y => x.1 ≤ y.1) := by
      rw [List.pairwise_map]
      have h1' : (zs.map Value.ref).Pairwise fun x y => SrtO.lexB (kv y) (kv x) = false := h1
      rw [List.pairwise_map] at h1'
      refine h1'.imp fun {x y} h => ?_
      have h' := SrtO.lexB_no.mp h
      have h'' : ¬ (((kk y).1 < (kk x).1) ∨ ((kk y).1 = (kk x).1 ∧ (kk y).2 < (kk x).2)) := h'
      omega
    have kF : ∀ b o, b ≠ h'.objs.size → h2.get? b = some o → (sortedHeap h2 h'.objs.size (as.map Value.ref) (zs.map Value.ref).toArray).get? b = some o := fun b o hb e => (PyProof.Rows.sortedHeap_old hb (Heap.lt_size e)).trans e
    have kS : ∀ b o, s.heap.get? b = some o → (sortedHeap h2 h'.objs.size (as.map Value.ref) (zs.map Value.ref).toArray).get? b = some o := fun b o e => kF b o (ne0 _ _ (hk b o e)) (ka b o (hk b o e))
    obtain ⟨eF, heF⟩ := PyProof.Rows.sortedHeap_at (vs := as.map Value.ref) (out := (zs.map Value.ref).toArray) hob
    have I1 : Inv X pins σ H { s with heap := sortedHeap h2 h'.objs.size (as.map Value.ref) (zs.map Value.ref).toArray, toks := tk } := I.kept (t' := tk) kS
    have hn0 : H h'.objs.size = none := I.hok.fresh (Nat.le_of_lt hlt)
    have hlen2 : (zs.map V.ref).length ≤ sizeLine := by rw [List.length_map, pz.length_eq]; omega
    have rv : Vals (zs.map V.ref) (zs.map Value.ref) := vals_maps V.ref Value.ref zs fun _ _ => rfl
    have I2 : Inv X pins σ (upd H h'.objs.size (.lst (zs.map V.ref))) { s with heap := sortedHeap h2 h'.objs.size (as.map Value.ref) (zs.map Value.ref).toArray, toks := tk } :=
      I1.take (h' := sortedHeap h2 h'.objs.size (as.map Value.ref) (zs.map Value.ref).toArray) (t' := tk) (fun b ob _ e => e) (I.fpOk (Nat.le_of_lt hlt) hn0) ⟨hlen2, zs.map Value.ref, eF, rv, heF⟩
    obtain ⟨H2, I3, g, qt⟩ := takeT2 (f := fun b => [.int (kk b).1, .int (kk b).2]) I as _ I2 nd fun b hb => by
      obtain ⟨t, u, hg⟩ := pin b hb
      have hbl : s.heap.objs.size ≤ b := Nat.le_of_lt (hG.above b hb)
      refine ⟨hbl, ?_, fun H3 => ⟨(by rw [sizeLine_eq]; show 2 ≤ 16777216; omega), [Value.int (kk b).1 t, Value.int (kk b).2 u], .cons ⟨_, rfl⟩ (.cons ⟨_, rfl⟩ .nil), ⟨_, kF _ _ (ne0 _ _ hg) (ka _ _ hg), rfl, 0, rfl⟩⟩⟩
      rw [upd_ne (ne0 _ _ hg)]
      exact I.hok.fresh hbl
    have hnew : ∀ b ∈ as, H b = none := fun b hb => I.hok.fresh (Nat.le_of_lt (hG.above b hb))
    have hl0 : h'.objs.size ∉ as := fun z => by
      obtain ⟨t, u, hg⟩ := pin _ z
      exact ne0 _ _ hg rfl
    refine ⟨.ref h'.objs.size, H2, I3, rfl, q H2 h'.objs.size zs (zs.map kk) (by rw [← kmap]; exact pz.map kk) hsort hn0 (fun b hb => hnew b (pz.mem_iff.mp hb)) (fun b o e => ?_) (fun n => ⟨fun b o e => ?_⟩) (by rw [g _ hl0, upd_same]) (by rw [List.length_map]) fun i b z h3 h4 => ?_⟩
    · rw [g b (fun z => by rw [hnew b z] at e; cases e), upd_ne (ne_of_none e hn0)]
      exact e
    · by_cases hb : b ∈ as
      · rw [qt b hb] at e
        cases e
        trivial
      · rw [g b hb] at e
        by_cases hbl : b = h'.objs.size
        · rw [hbl, upd_same] at e
          cases e
          trivial
        · rw [upd_ne hbl] at e
          exact n.nod b o e
    · rw [List.getElem?_map, h3] at h4
      have h5 : kk b = z := Option.some.inj h4
      rw [← h5]
      exact qt b (pz.mem_iff.mp (List.mem_of_getElem? h3))
/-- sorted(d), keys ints -/
def rSortDK : List V → Hp → VK → Prop := fun xs H Q => ∃ (a : Addr) (kvs : List (Key × V)) (ks : List Int), xs = [.ref a] ∧ H a = some (.dK kvs) ∧ kvs.map (·.1) = ks.map Sum.inl ∧
    ∀ (ys : List Int) (p : Addr), ys.Perm ks → ys.Pairwise (· ≤ ·) → H p = none → Q (.ref p) (upd H p (.lst (ys.map V.int)))
theorem cr_sortDK (hcalm : X.calm = true) : CallR X (.builtin "sorted") rSortDK := by
  intro pins s σ H xs us Q I r q
  obtain ⟨a, kvs, ks, ex, hd, hks, q⟩ := q
  subst ex
  obtain ⟨u, eu, rx⟩ := vals1 r
  subst eu
  cases rx
  obtain ⟨z, lo, vs, rel, dd⟩ := dk_of I.hok hd
  obtain ⟨ep, hat⟩ := dd.dictAt
  have hkeys : vs.map (·.1) = ks.map Sum.inl := rel.keys.symm.trans hks
  have hl : vs.length = ks.length := by
    have e := congrArg List.length hkeys
    rw [List.length_map, List.length_map] at e
    exact e
  have h16 : vs.length ≤ sizeLine := by rw [← rel.length]; exact z
  refine Calls.call_function_entry PyProof.Rows.kind_sorted PyProof.Rows.plain_sorted PyProof.Rows.entry_sorted (PyProof.Rows.args_sorted1 _) ?_
  unfold Builtin.«sorted»
  refine wpAny_bind (m := checkCount "sorted" 1 1 _) (wpAny_pure ?_)
  refine wpAny_bind (PySem.W.kdu_collect (A := X.A.in1) (PySem.W.kdl_dict (knd := mixKind X.prog X.w) (kvs := vs) (ep := ep) lo) (I.ok.hd hcalm) hat h16 fun h' tk acc hk hacc => ?_)
  have hal : acc.toList.length = ks.length := by rw [Array.length_toList, hacc.1, hl]
  have hS : IntsAre acc.toList ks := ints_each hal fun j v e => by
    obtain ⟨k, x, e1, e2⟩ := hacc.2 j v (by rw [← Array.getElem?_toList]; exact e)
    have e3 : (vs.map (·.1))[j]? = some k := by rw [List.getElem?_map, e1]; rfl
    rw [hkeys, List.getElem?_map] at e3
    cases e4 : ks[j]? with
    | none => rw [e4] at e3; cases e3
    | some y =>
      rw [e4] at e3
      have e5 : Sum.inl y = k := Option.some.inj e3
      subst e5
      rcases keyIs_shape (show keyIs (Sum.inl y) v = true from e2) with ⟨i, t, ek, ev⟩ | ⟨z, t, ek, ev⟩
      · cases ek
        exact ⟨y, t, rfl, ev⟩
      · cases ek
  have I1 : Inv X pins σ H { s with heap := h', toks := tk } := I.kept hk
  have hsz : acc.toList.length ≤ sizeLine := by rw [hal, ← hl]; exact h16
  refine wpAny_bind (wpAny_newList ?_ hsz)
  have hoL : (h'.push (seqObj "list" acc.toList.toArray 0)).get? h'.objs.size = some (seqObj "list" acc.toList.toArray 0) := Heap.get?_push_size _ rfl
  show wpAny _ _ _ _ _ { s with heap := h'.push (seqObj "list" acc.toList.toArray 0), toks := tk }
  refine wpAny_bind (wpAny_holding (wpAny_call_entry PyProof.Rows.slot_list_sort ⟨_, hoL, rfl⟩ PyProof.Rows.entry_list_sort
    (SrtO.list_sort_ord (s := { s with heap := h'.push (seqObj "list" acc.toList.toArray 0), toks := tk }) SrtO.swo_int hoL hsz (fun h2 => SrtO.ints_sortable hS h2) fun out b1 b2 => ⟨_, rfl, ?_⟩) (PyProof.Rows.args_list_sort _)))
  obtain ⟨g1, g2, g3⟩ := SrtO.ints_out hS b1 b2
  obtain ⟨e', he'⟩ := PyProof.Rows.sortedHeap_at (vs := acc.toList) (out := out.toArray) hoL
  have hlen : ((out.map SrtO.iv).map V.int).length ≤ sizeLine := by
    rw [List.length_map, g2.length_eq, ← hl]
    exact h16
  refine wpAny_pure ⟨_, rfl, .ref h'.objs.size, upd H h'.objs.size (.lst ((out.map SrtO.iv).map V.int)), I1.laid (t' := tk) (fun b u e => ?_) (Nat.le_refl _)
    (show ObjOk X.prog X.w _ _ _ (.lst ((out.map SrtO.iv).map V.int)) from ⟨hlen, out, e', vals_of_ints g1, he'⟩), rfl, q _ _ g2 g3 (I1.hok.fresh (Nat.le_refl _))⟩
  have hb : b < h'.objs.size := Heap.lt_size e
  rw [PyProof.Rows.sortedHeap_old (Nat.ne_of_lt hb) (by rw [size_push']; exact Nat.lt_succ_of_lt hb)]
  exact Heap.get?_push_of_some _ e
end
end Px
set_option linter.all false
set_option maxHeartbeats 1000000
namespace MQ
/-! ### greatest prime parts -/
def Pr (p : Nat) : Prop := 2 ≤ p ∧ ∀ d, d ∣ p → d = 1 ∨ d = p
open Classical in
/-- the greatest prime to k that parts n, or 1 -/
noncomputable def gpTo : Nat → Nat → Nat
  | 0, _ => 1
  | k + 1, n => if Pr (k + 1) ∧ (k + 1) ∣ n then k + 1 else gpTo k n
theorem gpTo_yes {k n : Nat} (h : Pr (k + 1) ∧ (k + 1) ∣ n) : gpTo (k + 1) n = k + 1 := if_pos h
theorem gpTo_no {k n : Nat} (h : ¬ (Pr (k + 1) ∧ (k + 1) ∣ n)) : gpTo (k + 1) n = gpTo k n := if_neg h
theorem gpTo_le {k n : Nat} : gpTo k n ≤ max 1 k := by
  induction k with
  | zero => simp [gpTo]
  | succ k ih =>
    by_cases h : Pr (k + 1) ∧ (k + 1) ∣ n
    · rw [gpTo_yes h]; omega
    · rw [gpTo_no h]; omega
theorem gpTo_pos {k n : Nat} : 1 ≤ gpTo k n := by
  induction k with
  | zero => simp [gpTo]
  | succ k ih =>
    by_cases h : Pr (k + 1) ∧ (k + 1) ∣ n
    · rw [gpTo_yes h]; omega
    · rw [gpTo_no h]; exact ih
theorem gpTo_spec {k n : Nat} : (gpTo k n = 1 ∧ ∀ p, Pr p → p ≤ k → ¬ p ∣ n) ∨ (Pr (gpTo k n) ∧ gpTo k n ∣ n ∧ gpTo k n ≤ k ∧ ∀ p, Pr p → p ≤ k → p ∣ n → p ≤ gpTo k n) := by
  induction k with
  | zero => exact .inl ⟨rfl, fun p hp h => by have := hp.1; omega⟩
  | succ k ih =>
    by_cases h : Pr (k + 1) ∧ (k + 1) ∣ n
    · rw [gpTo_yes h]
      exact .inr ⟨h.1, h.2, Nat.le_refl _, fun p _ hp _ => hp⟩
    · rw [gpTo_no h]
      have key : ∀ p, Pr p → p ≤ k + 1 → p ∣ n → p ≤ k := fun p h1 h2 h3 => by
        rcases Nat.lt_or_ge p (k + 1) with z | z
        · omega
        · have : p = k + 1 := by omega
          subst this
          exact absurd ⟨h1, h3⟩ h
      rcases ih with ⟨h1, h2⟩ | ⟨h1, h2, h3, h4⟩
      · exact .inl ⟨h1, fun p hp hk hd => h2 p hp (key p hp hk hd) hd⟩
      · exact .inr ⟨h1, h2, by omega, fun p hp hk hd => h4 p hp (key p hp hk hd) hd⟩
theorem has_prime : ∀ n : Nat, 2 ≤ n → ∃ p, Pr p ∧ p ∣ n := by
  intro n
  induction n using Nat.strongRecOn with
  | ind n ih =>
    intro h
    by_cases hp : Pr n
    · exact ⟨n, hp, Nat.dvd_refl n⟩
    · have : ∃ d, d ∣ n ∧ d ≠ 1 ∧ d ≠ n := Classical.byContradiction fun z => hp ⟨h, fun d hd => Classical.byContradiction fun y => z ⟨d, hd, fun e => y (.inl e), fun e => y (.inr e)⟩⟩
      obtain ⟨d, hd, h1, h2⟩ := this
      have hd0 : 0 < d := Nat.pos_of_dvd_of_pos hd (by omega)
      have hdn : d ≤ n := Nat.le_of_dvd (by omega) hd
      obtain ⟨p, hp1, hp2⟩ := ih d (by omega) (by omega)
      exact ⟨p, hp1, Nat.dvd_trans hp2 hd⟩
/-- what is prime, by the sieve -/
theorem sieve_prime {k : Nat} (h : 1 ≤ k) : gpTo k (k + 1) = 1 ↔ Pr (k + 1) := by
  rcases gpTo_spec (k := k) (n := k + 1) with ⟨h1, h2⟩ | ⟨h1, h2, h3, h4⟩
  · refine ⟨fun _ => ?_, fun _ => h1⟩
    obtain ⟨p, hp, hd⟩ := has_prime (k + 1) (by omega)
    rcases Nat.lt_or_ge k p with z | z
    · have := Nat.le_of_dvd (by omega) hd
      have : p = k + 1 := by omega
      rw [← this]; exact hp
    · exact absurd hd (h2 p hp z)
  · constructor
    · intro e
      have := h1.1
      omega
    · intro hp
      rcases hp.2 _ h2 with e | e
      · exact e
      · omega
noncomputable def gp (n : Nat) : Nat := gpTo n n
theorem gpTo_big {n k : Nat} (hn : 0 < n) (h : n ≤ k) : gpTo k n = gp n := by
  induction k with
  | zero => omega
  | succ k ih =>
    rcases Nat.lt_or_ge k n with z | z
    · have : n = k + 1 := by omega
      rw [this]; rfl
    · rw [gpTo_no (fun x => by have := Nat.le_of_dvd hn x.2; omega), ih z]
theorem gp_le {n : Nat} (h : 0 < n) : gp n ≤ n := by have := gpTo_le (k := n) (n := n); unfold gp; omega
theorem gp_pos {n : Nat} : 1 ≤ gp n := gpTo_pos
theorem gp_one : gp 1 = 1 := by have h1 := gp_le (n := 1) (by omega); have h2 := gp_pos (n := 1); omega
theorem gp_spec {n : Nat} (h : 2 ≤ n) : Pr (gp n) ∧ gp n ∣ n ∧ ∀ p, Pr p → p ∣ n → p ≤ gp n := by
  rcases gpTo_spec (k := n) (n := n) with ⟨h1, h2⟩ | ⟨h1, h2, h3, h4⟩
  · obtain ⟨p, hp, hd⟩ := has_prime n h
    exact absurd hd (h2 p hp (Nat.le_of_dvd (by omega) hd))
  · exact ⟨h1, h2, fun p hp hd => h4 p hp (Nat.le_of_dvd (by omega) hd) hd⟩
theorem gp_uniq {n g : Nat} (h : 2 ≤ n) (h1 : Pr g) (h2 : g ∣ n) (h3 : ∀ p, Pr p → p ∣ n → p ≤ g) : g = gp n := by
  obtain ⟨a, b, c⟩ := gp_spec h
  have := c g h1 h2
  have := h3 _ a b
  omega
/-- Euclid -/
theorem pr_mul {p a b : Nat} (hp : Pr p) (h : p ∣ a * b) : p ∣ a ∨ p ∣ b := by
  rcases hp.2 (Nat.gcd p a) (Nat.gcd_dvd_left p a) with e | e
  · exact .inr (Nat.Coprime.dvd_of_dvd_mul_left e h)
  · exact .inl (by rw [← e]; exact Nat.gcd_dvd_right p a)
theorem gp_mul {p n : Nat} (hp : Pr p) (hn : 0 < n) : gp (p * n) = max p (gp n) := by
  have hp2 := hp.1
  have h2 : 2 ≤ p * n := Nat.le_trans hp2 (Nat.le_mul_of_pos_right p hn)
  symm
  rcases Nat.lt_or_ge n 2 with z | z
  · have : n = 1 := by omega
    subst this
    rw [gp_one]
    refine gp_uniq h2 ?_ ?_ ?_
    · rw [Nat.max_eq_left (by omega)]; exact hp
    · rw [Nat.max_eq_left (by omega)]; exact Nat.dvd_mul_right p 1
    · intro q hq hd
      rw [Nat.mul_one] at hd
      have := Nat.le_of_dvd (by omega) hd
      omega
  · obtain ⟨a, b, c⟩ := gp_spec z
    refine gp_uniq h2 ?_ ?_ ?_
    · rcases Nat.le_total p (gp n) with y | y
      · rw [Nat.max_eq_right y]; exact a
      · rw [Nat.max_eq_left y]; exact hp
    · rcases Nat.le_total p (gp n) with y | y
      · rw [Nat.max_eq_right y]; exact Nat.dvd_trans b (Nat.dvd_mul_left n p)
      · rw [Nat.max_eq_left y]; exact Nat.dvd_mul_right p n
    · intro q hq hd
      rcases pr_mul hq hd with y | y
      · have := Nat.le_of_dvd (by omega) y
        omega
      · have := c q hq y
        omega
theorem gp_prime {p : Nat} (hp : Pr p) : gp p = p := by
  have := gp_mul hp (n := 1) (by omega)
  rw [Nat.mul_one, gp_one] at this
  have := hp.1
  omega
/-! ### counted -/
noncomputable def gl (b : Nat) : List Nat := (List.range b).map fun i => gp (i + 1)
theorem gl_len (b : Nat) : (gl b).length = b := by simp [gl]
theorem gl_mem {b x : Nat} (h : x ∈ gl b) : 1 ≤ x ∧ x ≤ b := by
  obtain ⟨i, hi, rfl⟩ := List.mem_map.mp h
  have := List.mem_range.mp hi
  exact ⟨gp_pos, by have := gp_le (n := i + 1) (by omega); omega⟩
theorem gl_succ (b : Nat) : gl (b + 1) = gl b ++ [gp (b + 1)] := by simp [gl, List.range_succ]
/-- each number that stands in a list, with how many times: rising -/
def cts (B : Nat) (L : List Nat) : List (Int × Int) := ((List.range (B + 1)).filter fun g => decide (0 < L.count g)).map fun (g : Nat) => ((g : Int), (L.count g : Int))
theorem cts_mem {B : Nat} {L : List Nat} (h : ∀ x ∈ L, x ≤ B) {z : Int × Int} : z ∈ cts B L ↔ ∃ g : Nat, g ∈ L ∧ z = ((g : Int), (L.count g : Int)) := by
  unfold cts
  rw [List.mem_map]
  constructor
  · rintro ⟨g, hg, rfl⟩
    rw [List.mem_filter] at hg
    exact ⟨g, List.count_pos_iff.mp (of_decide_eq_true hg.2), rfl⟩
  · rintro ⟨g, hg, rfl⟩
    exact ⟨g, List.mem_filter.mpr ⟨List.mem_range.mpr (by have := h g hg; omega), decide_eq_true (List.count_pos_iff.mpr hg)⟩, rfl⟩
theorem cts_pair (B : Nat) (L : List Nat) : (cts B L).Pairwise fun x y => x.1 < y.1 := by
  unfold cts
  rw [List.pairwise_map]
  exact (List.pairwise_lt_range.sublist List.filter_sublist).imp fun h => by simpa using h
theorem pair_eq : ∀ {l m : List (Int × Int)}, l.Pairwise (fun x y => x.1 < y.1) → m.Pairwise (fun x y => x.1 < y.1) → (∀ z, z ∈ l ↔ z ∈ m) → l = m
  | [], [], _, _, _ => rfl
  | [], y :: m, _, _, h => absurd ((h y).mpr List.mem_cons_self) (by simp)
  | x :: l, [], _, _, h => absurd ((h x).mp List.mem_cons_self) (by simp)
  | x :: l, y :: m, hl, hm, h => by
    obtain ⟨h1, h2⟩ := List.pairwise_cons.mp hl
    obtain ⟨g1, g2⟩ := List.pairwise_cons.mp hm
    have e : x = y := by
      rcases List.mem_cons.mp ((h x).mp List.mem_cons_self) with e | hx
      · exact e
      · rcases List.mem_cons.mp ((h y).mpr List.mem_cons_self) with e | hy
        · exact e.symm
        · have := g1 x hx
          have := h1 y hy
          omega
    subst e
    rw [pair_eq h2 g2 fun z => ?_]
    constructor
    · intro hz
      rcases List.mem_cons.mp ((h z).mp (List.mem_cons_of_mem _ hz)) with e | y
      · subst e
        have := h1 _ hz
        omega
      · exact y
    · intro hz
      rcases List.mem_cons.mp ((h z).mpr (List.mem_cons_of_mem _ hz)) with e | y
      · subst e
        have := g1 _ hz
        omega
      · exact y
/-- a dict of counts -/
structure Cdict (L : List Nat) (qs : List (Int × Int)) : Prop where
  nd : (qs.map (·.1)).Nodup
  mem : ∀ z, z ∈ qs ↔ ∃ g : Nat, g ∈ L ∧ z = ((g : Int), (L.count g : Int))
theorem Cdict.nil : Cdict [] [] := ⟨by simp, fun z => by simp⟩
theorem Cdict.sorted {B : Nat} {L : List Nat} {qs qs' : List (Int × Int)} (c : Cdict L qs) (hB : ∀ x ∈ L, x ≤ B) (p : qs'.Perm qs) (h : qs'.Pairwise fun x y => x.1 ≤ y.1) : qs' = cts B L := by
  have nd : (qs'.map (·.1)).Nodup := (p.map _).nodup_iff.mpr c.nd
  refine pair_eq ?_ (cts_pair B L) fun z => ?_
  · have nd' : qs'.Pairwise fun x y => x.1 ≠ y.1 := List.pairwise_map.mp nd
    exact (h.and nd').imp fun {x y} h => by omega
  · rw [p.mem_iff, c.mem z, cts_mem hB]
theorem Cdict.keys {B : Nat} {L : List Nat} {qs : List (Int × Int)} (c : Cdict L qs) (hB : ∀ x ∈ L, x ≤ B) {ks : List Int} (p : ks.Perm (qs.map (·.1))) (h : ks.Pairwise (· ≤ ·)) : ks = (cts B L).map (·.1) := by
  have nd : ks.Nodup := p.nodup_iff.mpr c.nd
  have h1 : ks.Pairwise (· < ·) := (h.and nd).imp fun {x y} h => by omega
  have h2 : ((cts B L).map (·.1)).Pairwise (· < ·) := List.pairwise_map.mpr (cts_pair B L)
  have hp : ks.Perm ((cts B L).map (·.1)) := by
    refine p.trans (List.perm_iff_count.mpr fun a => ?_)
    have n2 : ((cts B L).map (·.1)).Nodup := h2.imp fun h => by omega
    rw [c.nd.count, n2.count]
    have : a ∈ qs.map (·.1) ↔ a ∈ (cts B L).map (·.1) := by
      rw [List.mem_map, List.mem_map]
      constructor
      · rintro ⟨z, hz, rfl⟩; exact ⟨z, (cts_mem hB).mpr ((c.mem z).mp hz), rfl⟩
      · rintro ⟨z, hz, rfl⟩; exact ⟨z, (c.mem z).mpr ((cts_mem hB).mp hz), rfl⟩
    simp only [this]
  exact hp.eq_of_pairwise (fun a b _ _ h1 h2 => by omega) (h1.imp fun h => Int.le_of_lt h) (h2.imp fun h => Int.le_of_lt h)
end MQ
namespace MQ
/-! ### the sieve -/
def fl (B : Nat) (f : Nat → Nat) : List Nat := (List.range (B + 1)).map f
theorem fl_len (B : Nat) (f : Nat → Nat) : (fl B f).length = B + 1 := by simp [fl]
theorem fl_get {B j : Nat} {f : Nat → Nat} (h : j ≤ B) : (fl B f)[j]? = some (f j) := by
  unfold fl
  rw [List.getElem?_map, List.getElem?_range (by omega)]
  rfl
theorem fl_congr {B : Nat} {f g : Nat → Nat} (h : ∀ n, n ≤ B → f n = g n) : fl B f = fl B g :=
  List.map_congr_left fun n hn => h n (by have := List.mem_range.mp hn; omega)
theorem fl_set {B j v : Nat} {f : Nat → Nat} (h : j ≤ B) : (fl B f).set j v = fl B fun n => if n = j then v else f n := by
  refine List.ext_getElem? fun i => ?_
  rcases Nat.lt_or_ge B i with z | z
  · rw [List.getElem?_eq_none (by rw [List.length_set, fl_len]; omega), List.getElem?_eq_none (by rw [fl_len]; omega)]
  · rw [fl_get z]
    by_cases e : i = j
    · subst e
      rw [List.getElem?_set_self (by rw [fl_len]; omega), if_pos rfl]
    · rw [List.getElem?_set_ne (Ne.symm e), fl_get z, if_neg e]
noncomputable def sv (k : Nat) : Nat → Nat := fun n => if n = 0 then 1 else gpTo k n
open Classical in
noncomputable def sw (p i : Nat) (f : Nat → Nat) : Nat → Nat := fun n => if p ∣ n ∧ 0 < n ∧ n ≤ p * i then p else f n
theorem sw_zero {p : Nat} {f : Nat → Nat} : sw p 0 f = f := by
  funext n
  unfold sw
  rw [if_neg (by omega)]
theorem sw_succ {p i : Nat} {f : Nat → Nat} (hp : 0 < p) : (fun n => if n = p * (i + 1) then p else sw p i f n) = sw p (i + 1) f := by
  funext n
  unfold sw
  by_cases e : n = p * (i + 1)
  · rw [if_pos e, if_pos ⟨by rw [e]; exact Nat.dvd_mul_right _ _, by rw [e]; exact Nat.mul_pos hp (by omega), by omega⟩]
  · rw [if_neg e]
    by_cases h : p ∣ n ∧ 0 < n ∧ n ≤ p * i
    · rw [if_pos h, if_pos ⟨h.1, h.2.1, Nat.le_trans h.2.2 (Nat.mul_le_mul_left p (by omega))⟩]
    · rw [if_neg h, if_neg]
      rintro ⟨⟨c, rfl⟩, h2, h3⟩
      have hc : c ≤ i + 1 := Nat.le_of_mul_le_mul_left h3 hp
      have hc2 : c ≠ i + 1 := fun z => e (by rw [z])
      exact h ⟨Nat.dvd_mul_right _ _, h2, Nat.mul_le_mul_left p (by omega)⟩
theorem sw_end {k m B : Nat} (hp : Pr (k + 1)) (hB : B < (k + 1) * (m + 1)) {n : Nat} (hn : n ≤ B) : sw (k + 1) m (sv k) n = sv (k + 1) n := by
  unfold sw sv
  by_cases h0 : n = 0
  · rw [if_neg (by omega), if_pos h0, if_pos h0]
  · rw [if_neg h0, if_neg h0]
    by_cases hd : (k + 1) ∣ n
    · have hle : n ≤ (k + 1) * m := by
        obtain ⟨c, rfl⟩ := hd
        have : c < m + 1 := Nat.lt_of_mul_lt_mul_left (Nat.lt_of_le_of_lt hn hB)
        exact Nat.mul_le_mul_left _ (by omega)
      rw [if_pos ⟨hd, by omega, hle⟩, gpTo_yes ⟨hp, hd⟩]
    · rw [if_neg (fun z => hd z.1), gpTo_no (fun z => hd z.2)]
theorem sv_skip {k : Nat} (h : ¬ Pr (k + 1)) : sv (k + 1) = sv k := by
  funext n
  unfold sv
  split
  · rfl
  · exact gpTo_no (fun z => h z.1)
theorem sv_one : sv 1 = fun _ => 1 := by
  funext n
  unfold sv
  split
  · rfl
  · rw [gpTo_no (fun z => by have := z.1.1; omega)]; rfl
theorem sv_test {k : Nat} (h : 1 ≤ k) : sv k (k + 1) = 1 ↔ Pr (k + 1) := by
  unfold sv
  rw [if_neg (by omega)]
  exact sieve_prime h
theorem sv_done (B : Nat) : fl B (sv B) = 1 :: gl B := by
  unfold fl gl
  rw [List.range_succ_eq_map, List.map_cons, List.map_map]
  refine congr (congrArg List.cons ?_) (List.map_congr_left fun n hn => ?_)
  · unfold sv; rw [if_pos rfl]
  · have := List.mem_range.mp hn
    show sv B (n + 1) = gp (n + 1)
    unfold sv
    rw [if_neg (by omega), gpTo_big (by omega) (by omega)]
/-! ### counting one more -/
theorem count_app (L : List Nat) (x g : Nat) : (L ++ [x]).count g = L.count g + if x = g then 1 else 0 := by
  rw [List.count_append, List.count_cons, List.count_nil]
  simp
theorem Cdict.get {L : List Nat} {qs : List (Int × Int)} (c : Cdict L qs) (x : Nat) : (qs.find? fun z => decide (z.1 = (x : Int))).map (·.2) = if x ∈ L then some (L.count x : Int) else none := by
  by_cases h : x ∈ L
  · rw [if_pos h]
    have hm : ((x : Int), (L.count x : Int)) ∈ qs := (c.mem _).mpr ⟨x, h, rfl⟩
    cases e : qs.find? fun z => decide (z.1 = (x : Int)) with
    | none =>
      have := List.find?_eq_none.mp e _ hm
      simp at this
    | some z =>
      have h1 := List.find?_some e
      have h2 := List.mem_of_find?_eq_some e
      obtain ⟨g, hg, rfl⟩ := (c.mem z).mp h2
      have : (g : Int) = (x : Int) := of_decide_eq_true h1
      have : g = x := by omega
      subst this
      rfl
  · rw [if_neg h]
    cases e : qs.find? fun z => decide (z.1 = (x : Int)) with
    | none => rfl
    | some z =>
      have h1 := List.find?_some e
      have h2 := List.mem_of_find?_eq_some e
      obtain ⟨g, hg, rfl⟩ := (c.mem z).mp h2
      have : (g : Int) = (x : Int) := of_decide_eq_true h1
      have : g = x := by omega
      subst this
      exact absurd hg h
/-- a store in such a dict -/
def putC (qs : List (Int × Int)) (k v : Int) : List (Int × Int) := if qs.any (fun z => decide (z.1 = k)) then qs.map fun z => if z.1 = k then (z.1, v) else z else qs ++ [(k, v)]
theorem Cdict.put {L : List Nat} {qs : List (Int × Int)} (c : Cdict L qs) (x : Nat) : Cdict (L ++ [x]) (putC qs (x : Int) ((L.count x : Int) + 1)) := by
  unfold putC
  by_cases h : x ∈ L
  · have hm : ((x : Int), (L.count x : Int)) ∈ qs := (c.mem _).mpr ⟨x, h, rfl⟩
    rw [if_pos (List.any_eq_true.mpr ⟨_, hm, by simp⟩)]
    refine ⟨?_, fun z => ?_⟩
    · rw [List.map_map]
      have : qs.map ((fun z : Int × Int => z.1) ∘ fun z => if z.1 = (x : Int) then (z.1, (L.count x : Int) + 1) else z) = qs.map (·.1) := List.map_congr_left fun z _ => by
        show (if z.1 = (x : Int) then (z.1, (L.count x : Int) + 1) else z).1 = z.1
        split <;> rfl
      rw [this]; exact c.nd
    · rw [List.mem_map]
      constructor
      · rintro ⟨w, hw, rfl⟩
        obtain ⟨g, hg, rfl⟩ := (c.mem w).mp hw
        refine ⟨g, List.mem_append_left _ hg, ?_⟩
        rw [count_app]
        by_cases e : x = g
        · subst e; simp
        · rw [if_neg (by show ¬ (g : Int) = (x : Int); omega), if_neg e]; simp
      · rintro ⟨g, hg, rfl⟩
        rw [count_app]
        by_cases e : x = g
        · subst e
          exact ⟨_, hm, by simp⟩
        · have hg' : g ∈ L := by
            rcases List.mem_append.mp hg with y | y
            · exact y
            · exact absurd (List.mem_singleton.mp y).symm e
          refine ⟨((g : Int), (L.count g : Int)), (c.mem _).mpr ⟨g, hg', rfl⟩, ?_⟩
          rw [if_neg (by show ¬ (g : Int) = (x : Int); omega), if_neg e]; simp
  · have hk : ∀ z ∈ qs, z.1 ≠ (x : Int) := fun z hz e => by
      obtain ⟨g, hg, rfl⟩ := (c.mem z).mp hz
      have : g = x := by have : (g : Int) = (x : Int) := e; omega
      exact h (this ▸ hg)
    rw [if_neg (fun z => by obtain ⟨w, hw, e⟩ := List.any_eq_true.mp z; exact hk w hw (of_decide_eq_true e))]
    have h0 : L.count x = 0 := List.count_eq_zero.mpr h
    refine ⟨?_, fun z => ?_⟩
    · rw [List.map_append, List.nodup_append]
      refine ⟨c.nd, by simp, fun a ha b hb => ?_⟩
      obtain ⟨w, hw, rfl⟩ := List.mem_map.mp ha
      rw [List.map_cons, List.map_nil, List.mem_singleton] at hb
      subst hb
      exact hk w hw
    · rw [List.mem_append, List.mem_singleton]
      constructor
      · rintro (hz | rfl)
        · obtain ⟨g, hg, rfl⟩ := (c.mem z).mp hz
          refine ⟨g, List.mem_append_left _ hg, ?_⟩
          have e : ¬ x = g := fun e => h (e ▸ hg)
          rw [count_app, if_neg e]; simp
        · refine ⟨x, List.mem_append_right _ (List.mem_singleton.mpr rfl), ?_⟩
          rw [count_app, if_pos rfl, h0]; simp
      · rintro ⟨g, hg, rfl⟩
        rw [count_app]
        by_cases e : x = g
        · subst e
          right; rw [if_pos rfl, h0]; simp
        · left
          have hg' : g ∈ L := by
            rcases List.mem_append.mp hg with y | y
            · exact y
            · exact absurd (List.mem_singleton.mp y).symm e
          rw [if_neg e]
          exact (c.mem _).mpr ⟨g, hg', by simp⟩
theorem putC_len (qs : List (Int × Int)) (k v : Int) : (putC qs k v).length ≤ qs.length + 1 := by
  unfold putC
  split
  · rw [List.length_map]; omega
  · rw [List.length_append]; simp
/-! ### so many with at most -/
theorem sum_one (x n : Nat) : ((List.range n).map fun g => if x = g then 1 else 0).sum = if x < n then 1 else 0 := by
  induction n with
  | zero => simp
  | succ n ih =>
    rw [List.range_succ, List.map_append, List.sum_append, ih]
    simp only [List.map_cons, List.map_nil, List.sum_cons, List.sum_nil]
    by_cases h : x = n
    · subst h; simp
    · rw [if_neg h]
      by_cases h2 : x < n
      · rw [if_pos h2, if_pos (by omega)]; rfl
      · rw [if_neg h2, if_neg (by omega)]; rfl
theorem sum_add {α : Type} (f g : α → Nat) : ∀ l : List α, (l.map fun a => f a + g a).sum = (l.map f).sum + (l.map g).sum
  | [] => rfl
  | a :: l => by simp only [List.map_cons, List.sum_cons, sum_add f g l]; omega
theorem cts_count (B m : Nat) (L : List Nat) : (((List.range (B + 1)).filter fun g => decide (g ≤ m)).map fun g => L.count g).sum = (L.filter fun x => decide (x ≤ m ∧ x ≤ B)).length := by
  induction L with
  | nil =>
    simp only [List.count_nil, List.filter_nil, List.length_nil]
    generalize ((List.range (B + 1)).filter fun g => decide (g ≤ m)) = l
    induction l with
    | nil => rfl
    | cons a l ih => simpa using ih
  | cons x L ih =>
    have e1 : ∀ g, (x :: L).count g = L.count g + if x = g then 1 else 0 := fun g => by
      rw [List.count_cons]; simp
    simp only [e1]
    rw [sum_add, ih, List.filter_cons]
    have e2 : (((List.range (B + 1)).filter fun g => decide (g ≤ m)).map fun g => if x = g then 1 else 0).sum = if x ≤ m ∧ x ≤ B then 1 else 0 := by
      have : ∀ n, (((List.range n).filter fun g => decide (g ≤ m)).map fun g => if x = g then 1 else 0).sum = if x ≤ m ∧ x < n then 1 else 0 := fun n => by
        induction n with
        | zero => simp
        | succ n ih =>
          rw [List.range_succ, List.filter_append, List.map_append, List.sum_append, ih, List.filter_cons, List.filter_nil]
          by_cases hn : n ≤ m
          · rw [if_pos (decide_eq_true hn)]
            simp only [List.map_cons, List.map_nil, List.sum_cons, List.sum_nil]
            by_cases h : x = n
            · subst h; simp [hn]
            · rw [if_neg h]
              by_cases h2 : x ≤ m ∧ x < n
              · rw [if_pos h2, if_pos ⟨h2.1, by omega⟩]; rfl
              · rw [if_neg h2, if_neg (by omega)]; rfl
          · rw [if_neg (c := decide (n ≤ m) = true) (by simpa using hn)]
            simp only [List.map_nil, List.sum_nil, Nat.add_zero]
            by_cases h2 : x ≤ m ∧ x < n
            · rw [if_pos h2, if_pos ⟨h2.1, by omega⟩]
            · rw [if_neg h2, if_neg (by omega)]
      rw [this (B + 1)]
      by_cases h2 : x ≤ m ∧ x ≤ B
      · rw [if_pos h2, if_pos (by omega)]
      · rw [if_neg h2, if_neg (by omega)]
    rw [e2]
    by_cases h : x ≤ m ∧ x ≤ B
    · rw [if_pos h, if_pos (decide_eq_true h), List.length_cons]
    · rw [if_neg h, if_neg (by simpa using h)]; rfl
theorem cast_sum : ∀ l : List Nat, ((l.sum : Nat) : Int) = (l.map fun (x : Nat) => (x : Int)).sum
  | [] => rfl
  | a :: l => by simp [cast_sum l]
/-- the counts of those to m come to how many are to m -/
theorem cts_sum {B : Nat} {L : List Nat} (h : ∀ x ∈ L, x ≤ B) (m : Int) : (((cts B L).filter fun z => decide (z.1 ≤ m)).map (·.2)).sum = ((L.filter fun (x : Nat) => decide ((x : Int) ≤ m)).length : Int) := by
  rcases Int.lt_or_le m 0 with hm | hm
  · have e1 : (cts B L).filter (fun z => decide (z.1 ≤ m)) = [] := List.filter_eq_nil_iff.mpr fun z hz => by
      obtain ⟨g, _, rfl⟩ := (cts_mem h).mp hz
      simp; omega
    have e2 : L.filter (fun (x : Nat) => decide ((x : Int) ≤ m)) = [] := List.filter_eq_nil_iff.mpr fun x _ => by simp; omega
    rw [e1, e2]; rfl
  · obtain ⟨k, rfl⟩ : ∃ k : Nat, m = (k : Int) := ⟨m.toNat, by omega⟩
    have e2 : (L.filter fun (x : Nat) => decide ((x : Int) ≤ (k : Int))) = L.filter fun x => decide (x ≤ k ∧ x ≤ B) := List.filter_congr fun x hx => by
      have := h x hx
      exact decide_eq_decide.mpr (by omega)
    rw [e2, ← cts_count, cast_sum]
    unfold cts
    rw [List.filter_map, List.map_map, List.map_map, List.filter_filter]
    have e3 : ∀ l : List Nat, ((l.filter fun a => ((fun z : Int × Int => decide (z.1 ≤ (k : Int))) ∘ fun (g : Nat) => ((g : Int), (L.count g : Int))) a && decide (0 < L.count a)).map ((fun z : Int × Int => z.2) ∘ fun (g : Nat) => ((g : Int), (L.count g : Int)))).sum = ((l.filter fun g => decide (g ≤ k)).map ((fun (x : Nat) => (x : Int)) ∘ fun g => L.count g)).sum := fun l => by
      induction l with
      | nil => rfl
      | cons a l ih =>
        rw [List.filter_cons, List.filter_cons]
        have e4 : ((fun z : Int × Int => decide (z.1 ≤ (k : Int))) ∘ fun (g : Nat) => ((g : Int), (L.count g : Int))) a = decide (a ≤ k) := decide_eq_decide.mpr (by show (a : Int) ≤ (k : Int) ↔ a ≤ k; omega)
        rw [e4]
        by_cases h1 : a ≤ k
        · rw [if_pos (decide_eq_true h1), decide_eq_true h1, Bool.true_and]
          by_cases h2 : 0 < L.count a
          · rw [if_pos (decide_eq_true h2), List.map_cons, List.map_cons, List.sum_cons, List.sum_cons, ih]; rfl
          · rw [if_neg (by simpa using h2), List.map_cons, List.sum_cons, ih]
            have : L.count a = 0 := by omega
            show _ = ((L.count a : Nat) : Int) + _
            rw [this]; simp
        · rw [decide_eq_false h1, Bool.false_and, if_neg (by decide), if_neg (by decide)]
          exact ih
    exact e3 _
end MQ
namespace MQ
/-! ### by trial -/
theorem pr_of_sq {l d : Nat} (hl : 2 ≤ l) (h : ∀ p, Pr p → p ∣ l → d ≤ p) (hd : l < d * d) : Pr l := by
  obtain ⟨p, hp, c, rfl⟩ := has_prime l hl
  have h1 := h p hp (Nat.dvd_mul_right p c)
  rcases Nat.lt_or_ge c 2 with z | z
  · have : c = 1 := by
      rcases Nat.eq_zero_or_pos c with y | y
      · subst y; simp at hl
      · omega
    subst this
    rw [Nat.mul_one]; exact hp
  · obtain ⟨q, hq, hqc⟩ := has_prime c z
    have h2 := h q hq (Nat.dvd_trans hqc (Nat.dvd_mul_left c p))
    have h3 := Nat.le_of_dvd (by omega) hqc
    have : d * d ≤ p * c := Nat.mul_le_mul h1 (by omega)
    omega
theorem pr_of_least {l d : Nat} (hd2 : 2 ≤ d) (h : ∀ p, Pr p → p ∣ l → d ≤ p) (hd : d ∣ l) : Pr d := by
  obtain ⟨q, hq, hqd⟩ := has_prime d hd2
  have h1 := h q hq (Nat.dvd_trans hqd hd)
  have h2 := Nat.le_of_dvd (by omega) hqd
  have : q = d := by omega
  rw [← this]; exact hq
/-- where the search stands: f found, l left, d tried next -/
structure Tri (n f l d : Nat) : Prop where
  l0 : 0 < l
  ln : l ≤ n
  f1 : 1 ≤ f
  fd : f ≤ d
  is : gp n = max f (gp l)
  up : ∀ p, Pr p → p ∣ l → d ≤ p
theorem Tri.start {n : Nat} (h : 0 < n) : Tri n 1 n 2 := ⟨h, Nat.le_refl _, Nat.le_refl _, by omega, by have := gp_pos (n := n); omega, fun p hp _ => hp.1⟩
theorem Tri.take {n f l d : Nat} (t : Tri n f l d) (h2 : 2 ≤ d) (h : l % d = 0) : Tri n d (l / d) d ∧ l / d < l := by
  obtain ⟨c, rfl⟩ := Nat.dvd_of_mod_eq_zero h
  have hp := pr_of_least h2 t.up (Nat.dvd_mul_right d c)
  have hc : 0 < c := by
    rcases Nat.eq_zero_or_pos c with y | y
    · subst y; have := t.l0; simp at this
    · exact y
  rw [Nat.mul_div_cancel_left c (by omega)]
  have hlt : c < d * c := by
    have : 2 * c ≤ d * c := Nat.mul_le_mul_right c h2
    omega
  refine ⟨⟨hc, by have := t.ln; omega, by omega, Nat.le_refl _, ?_, fun p h1 h3 => t.up p h1 (Nat.dvd_trans h3 (Nat.dvd_mul_left c d))⟩, hlt⟩
  rw [t.is, gp_mul hp hc]
  have := t.fd
  omega
theorem Tri.next {n f l d : Nat} (t : Tri n f l d) (h : l % d ≠ 0) : Tri n f l (d + 1) := ⟨t.l0, t.ln, t.f1, by have := t.fd; omega, t.is, fun p h1 h2 => by
  have := t.up p h1 h2
  rcases Nat.lt_or_ge d p with z | z
  · omega
  · have : p = d := by omega
    subst this
    exact absurd (Nat.mod_eq_zero_of_dvd h2) h⟩
theorem Tri.done {n f l d : Nat} (t : Tri n f l d) (h : l < d * d) : gp n = max f l := by
  rw [t.is]
  have h1 := t.l0
  have h2 := t.f1
  rcases Nat.lt_or_ge l 2 with z | z
  · have : l = 1 := by omega
    subst this
    rw [gp_one]
  · rw [gp_prime (pr_of_sq z t.up h)]
theorem gl_take {b i : Nat} (h : i ≤ b) : (gl b).take i = gl i := by
  unfold gl
  rw [← List.map_take, List.take_range, Nat.min_eq_left h]
end MQ
set_option Elab.async false
set_option linter.all false
set_option maxRecDepth 100000
set_option maxHeartbeats 4000000
namespace Px
open PySem L2 MA
local macro_rules | `(tactic| bv_omega) => `(tactic| first | assumption | omega | exact cm (by omega) | exact cd (by omega) | exact cp (by omega) | exact trivial)
local macro_rules | `(tactic| array_get_dec) => `(tactic| first
  | assumption
  | exact sq_up
  | exact Own.sqi (by assumption) 0 (by rfl)
  | exact Own.sqi (by assumption) 1 (by rfl)
  | exact Own.sqi (by assumption) 2 (by rfl)
  | exact Own.sqi (by assumption) 3 (by rfl)
  | exact Own.sqi (by assumption) 4 (by rfl)
  | exact Own.sq (by assumption) (by assumption)
  | exact sq_new (by assumption) (by assumption))
local macro_rules | `(tactic| clean_wf) => `(tactic| first
  | with_reducible exact ev_c
  | (with_reducible apply ev_v') <;> rfl
  | (with_reducible apply ev_add) <;> clean_wf
  | (with_reducible apply ev_sub) <;> clean_wf
  | (with_reducible apply ev_mul) <;> clean_wf
  | (with_reducible apply ev_mod) <;> clean_wf
  | (with_reducible apply ev_div) <;> clean_wf
  | (with_reducible apply ev_pow) <;> clean_wf
  | (with_reducible apply ev_neg) <;> clean_wf
  | (with_reducible apply ev_lt) <;> clean_wf
  | (with_reducible apply ev_le) <;> clean_wf
  | (with_reducible apply ev_gt) <;> clean_wf
  | (with_reducible apply ev_ge) <;> clean_wf
  | (with_reducible apply ev_eqi) <;> clean_wf
  | (with_reducible apply ev_nei) <;> clean_wf
  | (with_reducible apply ev_len) <;> clean_wf
  | (with_reducible apply ev_ixL) <;> clean_wf
  | (with_reducible apply ev_min) <;> clean_wf
  | (with_reducible apply ev_max) <;> clean_wf
  | (with_reducible apply ev_abs) <;> clean_wf
  | (with_reducible apply ev_intB) <;> clean_wf
  | (with_reducible apply ea_1) <;> clean_wf
  | (with_reducible apply ea_2) <;> clean_wf
  | (with_reducible apply ea_3) <;> clean_wf
  | with_reducible exact ea_nil
  | (with_reducible apply ea_cons) <;> clean_wf
  | with_reducible exact el_nil
  | (with_reducible apply ep_lt) <;> clean_wf
  | (with_reducible apply ep_le) <;> clean_wf
  | (with_reducible apply ep_gt) <;> clean_wf
  | (with_reducible apply ep_ge) <;> clean_wf
  | (with_reducible apply ep_eqi) <;> clean_wf
  | (with_reducible apply ep_nei) <;> clean_wf
  | (with_reducible apply ep_not) <;> clean_wf
  | ((with_reducible apply ep_and) <;> first | (intro _; clean_wf; done) | clean_wf)
  | ((with_reducible apply ep_or) <;> first | (intro _; clean_wf; done) | clean_wf)
  | (with_reducible apply et_t) <;> clean_wf
  | (with_reducible apply eo_is) <;> clean_wf
  | with_reducible exact eo_no
  | array_get_dec
  | bv_omega
  | rfl
  | skip)
local macro_rules | `(tactic| symm_saturate) => `(tactic| first
  | ((with_reducible apply q_set); (focus (clean_wf; done)))
  | ((with_reducible apply s_set); (focus (clean_wf; done)))
  | ((with_reducible apply q_aug (hx := rfl)); (focus (clean_wf; done)))
  | ((with_reducible apply s_aug (hx := rfl)); (focus (clean_wf; done)))
  | ((with_reducible apply q_augC (hx := rfl)); (focus (clean_wf; done)))
  | ((with_reducible apply s_augC (hx := rfl)); (focus (clean_wf; done))))
local macro_rules | `(tactic| subst_eqs) => `(tactic| repeat' (first
  | with_reducible apply w_c
  | ((with_reducible apply w_v'); (focus rfl))
  | with_reducible apply w_op
  | with_reducible apply w_cb
  | with_reducible apply w_cons
  | with_reducible apply w_nil
  | with_reducible apply r_add
  | with_reducible apply r_sub
  | ((with_reducible apply r_mul); (focus (bv_omega; done)))
  | ((with_reducible apply r_div); (focus (bv_omega; done)))
  | ((with_reducible apply r_mod); (focus (bv_omega; done)))
  | ((with_reducible apply r_pow); (focus (bv_omega; done)))
  | with_reducible apply r_lt
  | with_reducible apply r_le
  | with_reducible apply r_gt
  | with_reducible apply r_ge
  | with_reducible apply r_min
  | with_reducible apply r_max
  | with_reducible apply r_intB
  | ((with_reducible apply r_len); (focus (array_get_dec; done)))
  | with_reducible apply w_callW
  | with_reducible apply q_setW
  | with_reducible apply s_setW
  | with_reducible apply s_retW))

/-- a list of pairs that was just made -/
def NewP (H : Hp) (qs : List (Int × Int)) (Q : VK) : Prop := ∀ (p1 : Addr) (as : List Addr) (H' : Hp), H p1 = none → (∀ b ∈ as, H b = none) → Ex H H' → Nod H' → Prs H' p1 as qs → Q (.ref p1) H'
theorem zv_set (l : List Nat) (j x : Nat) : (zv l).set j (.int (x : Int)) = zv (l.set j x) := by
  rw [zv, zl, List.map_map, zv, zl, List.map_map, List.map_set]
  rfl
theorem w_forR3 {K : PySem.W.Frag} {σ : L2.St} {H : Hp} {D : Ends} {g : TG} {tu : TS} {ta : TA} (h : ta σ H fun vs H1 => ∃ (i j c : Int) (n : Nat), vs = [.int i, .int j, .int c] ∧ RgC i j c n ∧ Lp (Itc i c n) g tu D σ H1) : tFor (iRng3 ta) g tu D σ H := h
theorem lp_rangeC {lo c : Int} {n k : Nat} {tu : TS} {D : Ends} {σ : L2.St} {H : Hp} (Pv : Nat → L2.St → Hp → Prop) (h0 : Pv 0 σ H)
    (hs : ∀ i σ' H', i < n → Pv i σ' H' → tu { D with nx := Pv (i + 1), ct := Pv (i + 1), bk := D.nx } (σ'.set k (some (.int (lo + (i : Nat) * c)))) H') (hd : ∀ σ' H', Pv n σ' H' → D.nx σ' H') : Lp (Itc lo c n) (gName k) tu D σ H := for_rangeC Pv h0 hs hd
theorem el_rep1 {σ : L2.St} {H : Hp} {tk : TE} {x : V} {tx : TE} {k : Nat} [Nod H] (hx : ∀ H1, Ev tx σ H1 x) (hk : ∀ H1, Ev tk σ H1 (.int (k : Int))) (hz : k ≤ 16000000) {Q : VK} (q : ∀ r p, H r = none → upd H r (.lst [x]) p = none → Q (.ref p) (upd (upd H r (.lst [x])) p (.lst (List.replicate k x)))) : tOp rRep (tLst (tCons tx tNil)) tk σ H Q :=
  w_op (w_evL (el_lst (ea_1 (hx _)) (by simp)) fun r hr => w_ev (hk _) ⟨r, (k : Int), [x], rfl, rfl, upd_same, by omega, by omega, by
    rw [sizeLine_eq, Int.toNat_natCast]
    simp
    omega, fun p hp => by
    rw [Int.toNat_natCast]
    have : (List.replicate k [x]).flatten = List.replicate k x := by
      clear hp q hk hz
      induction k with
      | zero => rfl
      | succ k ih => rw [List.replicate_succ, List.flatten_cons, ih]; rfl
    rw [this]
    exact q r p hr hp⟩)
theorem rep_fl (B : Nat) : List.replicate (B + 1) (V.int 1) = zv (MQ.fl B (MQ.sv 1)) := by
  rw [MQ.sv_one]
  unfold MQ.fl
  rw [zv, zl, List.map_map, List.map_map]
  exact (List.eq_replicate_iff.mpr ⟨by simp, fun x hx => by obtain ⟨_, _, rfl⟩ := List.mem_map.mp hx; rfl⟩).symm
theorem w_bm0 {K : PySem.W.Frag} {σ : L2.St} {H : Hp} {T : String} {r : V → List V → Hp → VK → Prop} {to : TE} {Q : VK} (h : to σ H fun x H1 => tyV K T x H1 ∧ r x [] H1 Q) : tBM0 K T r to σ H Q := h
theorem ty_dict {K : PySem.W.Frag} {H : Hp} {p : Addr} {kvs : List (Key × V)} (h : H p = some (.dK kvs)) : tyV K "dict" (.ref p) H := Or.inr (Or.inr (Or.inl ⟨rfl, Or.inl ⟨_, h⟩⟩))
/-- the sieve's list -/
def sp_greatest_to (K : PySem.W.Frag) : Sp := fun vs H Q _ => Nod H ∧ ∃ (b : Nat), vs = [.int (b : Int)] ∧ 1 ≤ b ∧ b ≤ 20000 ∧ ∀ p : Addr, H p = none → Q (.ref p) (upd H p (.lst (zv (1 :: MQ.gl b))))
/-- slots: bound found number times -/
abbrev n_greatest_to : List Str := ["bound", "found", "number", "times"]
def t_greatest_to (K : PySem.W.Frag) : TS := (sFg (tSeq (tAsg (tOp rRep (tLst (tCons (tC (.int 1)) tNil)) (tOp oAdd (tVar 0) (tC (.int 1)))) (gName 1))
  (tSeq (tFor (iRng2 (tCons (tC (.int 2)) (tCons (tOp oAdd (tVar 0) (tC (.int 1))) tNil))) (gName 2) (tIfS (tTest (tOp rEq (tOp (rIxL K) (tVar 1) (tVar 2)) (tC (.int 1)))) (tFor (iRng3 (tCons (tVar 2) (tCons (tOp oAdd (tVar 0) (tC (.int 1))) (tCons (tVar 2) tNil)))) (gName 3) (tAsg (tVar 2) (gSub (tVar 1) (tVar 3) rSetL))) tNext))
  (tRet (tVar 1)))))
theorem rgc_of {b n : Nat} (h0 : 2 ≤ n) (hn : n ≤ b) (hb : b ≤ 20000) : RgC (n : Int) ((b : Int) + 1) (n : Int) (b / n) := by
  have hdiv : 1 ≤ b / n := (Nat.one_le_div_iff (by omega)).mpr hn
  have e3 : Builtin.Range.rangeSize (n : Int) ((b : Int) + 1) (n : Int) = ((b / n : Nat) : Int) := by
    unfold Builtin.Range.rangeSize
    rw [if_pos (by omega), if_pos (by omega)]
    have e : (b : Int) + 1 - (n : Int) - 1 = ((b - n : Nat) : Int) := by omega
    rw [e, ← Int.natCast_ediv]
    have e2 := Nat.sub_mul_div_of_le b n 1 (by omega)
    rw [Nat.mul_one] at e2
    omega
  have hd2 : b / n ≤ b := Nat.div_le_self b n
  refine ⟨by omega, by omega, ?_, e3⟩
  unfold Builtin.Range.small
  rw [e3]
  simp only [Builtin.Range.rangeFitsLong, Bool.and_eq_true, Bool.or_eq_true, decide_eq_true_eq, beq_iff_eq]
  generalize b / n = z at hd2 hdiv
  rw [if_pos (show (n : Int) > 0 by omega)]
  simp only [Bool.and_eq_true, decide_eq_true_eq]
  omega
theorem r_greatest_to {K : PySem.W.Frag} {vs : List V} {H : Hp} {Q : VK} {E : XK} (h : sp_greatest_to K vs H Q E) : t_greatest_to K { nx := fun _ H' => Q .non H', rt := Q } (start n_greatest_to vs) H := by
  obtain ⟨nd, b, rfl, hb1, hb2, q⟩ := h
  refine fg_body (q_setW (el_rep1 (k := b + 1) (fun _ => ev_c) (fun _ => ev_eq (ev_add (i := (b : Int)) (ev_v 0) ev_c) rfl) (by omega) fun r p hr hp => ?_))
  rw [rep_fl]
  have o : Own H [(p, zv (MQ.fl b (MQ.sv 1)))] _ := (Own.nil.tmp (xs := [.int 1]) hr).new hp
  refine q_forR2 (lo := 2) (k := (b : Int) + 1) (ea_2 ev_c (ev_add (i := (b : Int)) (ev_v 0) ev_c)) (by omega) (fun i σ' H' => ∃ y2 y3 : Option V, σ' = [some (.int (b : Int)), some (.ref p), y2, y3] ∧ Own H [(p, zv (MQ.fl b (MQ.sv (i + 1))))] H' ) ⟨none, none, rfl, o⟩ (fun i σ' H' hi hv => ?_) fun σ' H' hv => ?_
  · clear o
    obtain ⟨y2, y3, rfl, o⟩ := hv
    obtain ⟨n, hn⟩ : ∃ n : Nat, n = i + 2 := ⟨_, rfl⟩
    have hnb : n ≤ b := by omega
    have en : (2 : Int) + (i : Int) = (n : Int) := by omega
    rw [en]
    have hget : (MQ.fl b (MQ.sv (i + 1)))[n]? = some (MQ.sv (i + 1) n) := MQ.fl_get hnb
    have hlen := MQ.fl_len b (MQ.sv (i + 1))
    have eat : atI (zv (MQ.fl b (MQ.sv (i + 1)))) (n : Int) = some (.int (MQ.sv (i + 1) n : Int)) := at_of rfl (zv_get hget)
    have htest := MQ.sv_test (k := i + 1) (by omega)
    refine s_whenP (ep_eqi (i := (MQ.sv (i + 1) n : Int)) (j := 1) (ev_ixL (ev_v 1) (ev_v 2) (o.sqi 0 rfl) eat) ev_c) (fun hc => ?_) fun hc => ?_
    · have hpr : MQ.Pr (i + 1 + 1) := htest.mp (by rw [show i + 1 + 1 = n by omega]; omega)
      have hn0 : 0 < n := by omega
      have hm : b < n * (b / n + 1) := by rw [Nat.mul_add, Nat.mul_one]; exact Nat.lt_mul_div_succ b hn0
      have hmle : n * (b / n) ≤ b := Nat.mul_div_le b n
      refine w_forR3 (K := K) (ea_3 (ev_v 2) (ev_add (i := (b : Int)) (ev_v 0) ev_c) (ev_v 2) _ ⟨_, _, _, b / n, rfl, rgc_of (by omega) hnb hb2, lp_rangeC (fun j σ' H' => ∃ y3 : Option V, σ' = [some (.int (b : Int)), some (.ref p), some (.int (n : Int)), y3] ∧ Own H [(p, zv (MQ.fl b (MQ.sw n j (MQ.sv (i + 1)))))] H') ⟨y3, rfl, by rw [MQ.sw_zero]; exact o⟩ (fun j σ' H' hj hv => ?_) fun σ' H' hv => ?_⟩)
      · obtain ⟨y3, rfl, o⟩ := hv
        have hjb : n * (j + 1) ≤ b := Nat.le_trans (Nat.mul_le_mul_left n (by omega)) hmle
        have eix : (n : Int) + (j : Int) * (n : Int) = ((n * (j + 1) : Nat) : Int) := by
          rw [Nat.mul_add, Nat.mul_one, Nat.mul_comm n j]; simp; omega
        rw [eix]
        refine s_sub (j := n * (j + 1)) (o.atI 0 rfl) (ixn (by rw [zv_len, MQ.fl_len]; omega)) (ev_v 2) (ev_v 1) (ev_v 3) ⟨_, rfl, ?_⟩
        rw [zv_set, MQ.fl_set hjb, MQ.sw_succ hn0]
        exact o.mut 0 rfl
      · obtain ⟨y3, rfl, o⟩ := hv
        refine ⟨_, _, rfl, ?_⟩
        have e1 : MQ.fl b (MQ.sw n (b / n) (MQ.sv (i + 1))) = MQ.fl b (MQ.sv (i + 1 + 1)) := MQ.fl_congr fun m hmb => by
          rw [show n = i + 1 + 1 by omega]
          rw [show n = i + 1 + 1 by omega] at hm
          exact MQ.sw_end hpr hm hmb
        rw [e1] at o
        exact o
    · have hpr : ¬ MQ.Pr (i + 1 + 1) := fun z => hc (by have := htest.mpr z; rw [show i + 1 + 1 = n by omega] at this; omega)
      refine ⟨_, _, rfl, ?_⟩
      rw [MQ.sv_skip hpr]
      exact o
  · obtain ⟨y2, y3, rfl, o⟩ := hv
    rw [show ((b : Int) + 1 - 2).toNat + 1 = b by omega, MQ.sv_done] at o
    exact s_ret (ev_v 1) ⟨_, o.ret 0 rfl, q p (o.offI 0 rfl)⟩

/-! ### counted -/
theorem Own.dput {B H : Hp} {L : List (Addr × List V)} {pd : Addr} {kvs kvs' : List (Key × V)} (o : Own B L H) (h : B pd = some (.dK kvs)) : Own (upd B pd (.dK kvs')) L (upd H pd (.dK kvs')) where
  nod := have := o.nod; inferInstance
  ex := fun b u hb => by
    by_cases e : b = pd
    · subst e; rw [upd_same] at hb ⊢; exact hb
    · rw [upd_ne e] at hb ⊢; exact o.ex b u hb
  off := fun q hq => by
    have : q.1 ≠ pd := fun e => by have := o.off q hq; rw [e, h] at this; cases this
    rw [upd_ne this]; exact o.off q hq
  dis := o.dis
  has := fun q hq => by
    have : q.1 ≠ pd := fun e => by have := o.off q hq; rw [e, h] at this; cases this
    rw [upd_ne this]; exact o.has q hq
theorem val_pK (qs : List (Int × Int)) (k : Int) : valV (qs.map pK) (Sum.inl k) = ((qs.find? fun z => decide (z.1 = k)).map (·.2)).map V.int := by
  unfold valV
  rw [List.find?_map]
  have : ((fun kv : Key × V => decide (kv.1 = Sum.inl k)) ∘ pK) = fun z : Int × Int => decide (z.1 = k) := by
    funext z
    show decide ((Sum.inl z.1 : Key) = Sum.inl k) = decide (z.1 = k)
    exact decide_eq_decide.mpr ⟨fun h => Sum.inl.inj h, fun h => by rw [h]⟩
  rw [this, Option.map_map, Option.map_map]
  rfl
theorem put_pK (qs : List (Int × Int)) (k v : Int) : putK (qs.map pK) (Sum.inl k) (V.int v) = (MQ.putC qs k v).map pK := by
  unfold putK MQ.putC
  have e1 : ((qs.map pK).any fun kv => decide (kv.1 = (Sum.inl k : Key))) = qs.any fun z => decide (z.1 = k) := by
    rw [List.any_map]
    congr 1
    funext z
    show decide ((Sum.inl z.1 : Key) = Sum.inl k) = decide (z.1 = k)
    exact decide_eq_decide.mpr ⟨fun h => Sum.inl.inj h, fun h => by rw [h]⟩
  by_cases h : (qs.any fun z => decide (z.1 = k)) = true
  · rw [if_pos (by rw [e1]; exact h), if_pos h, List.map_map, List.map_map]
    refine List.map_congr_left fun z _ => ?_
    show (if (Sum.inl z.1 : Key) = Sum.inl k then ((Sum.inl z.1 : Key), V.int v) else pK z) = pK (if z.1 = k then (z.1, v) else z)
    by_cases hz : z.1 = k
    · rw [if_pos hz, if_pos (by rw [hz])]
    · rw [if_neg hz, if_neg (fun y => hz (Sum.inl.inj y))]
  · rw [if_neg (by rw [e1]; exact h), if_neg h, List.map_append]; rfl
/-- what the counting dict tells: found.get(part, 0) -/
theorem get_or {L : List Nat} {qs : List (Int × Int)} (c : MQ.Cdict L qs) (x : Nat) : (valV (qs.map pK) (Sum.inl (x : Int))).getD (.int 0) = .int (L.count x : Int) := by
  rw [val_pK, c.get x]
  by_cases h : x ∈ L
  · rw [if_pos h]; rfl
  · rw [if_neg h, List.count_eq_zero.mpr h]; rfl
noncomputable def gcs (b : Nat) : List (Int × Int) := MQ.cts b (MQ.gl b)
theorem gl_le {b x : Nat} (h : x ∈ MQ.gl b) : x ≤ b := (MQ.gl_mem h).2
theorem gcs_len (b : Nat) : (gcs b).length ≤ b + 1 := by
  unfold gcs MQ.cts
  rw [List.length_map]
  exact Nat.le_trans (List.length_filter_le _ _) (by simp)
def sp_by_greatest (K : PySem.W.Frag) : Sp := fun vs H Q _ => Nod H ∧ ∃ (b : Nat), vs = [.int (b : Int)] ∧ 1 ≤ b ∧ b ≤ 20000 ∧ NewP H (gcs b) Q
/-- slots: bound found part -/
abbrev n_by_greatest : List Str := ["bound", "found", "part"]
def t_by_greatest (K : PySem.W.Frag) : TS := (sFg (tSeq (tAsg tDNewK (gName 1))
  (tSeq (tFor (iList K (tSl (rSlL K) (tCall (sp_greatest_to K) [] E0 (tCons (tVar 0) tNil)) (tPart (tC (.int 1))) tNoPart)) (gName 2) (sDPut (tVar 1) (tVar 2) (tOp oAdd (tDGet2 (tVar 1) (tVar 2) (tC (.int 0))) (tC (.int 1)))))
  (tRet (tCB rSortItK (tCons (tBM0 K "dict" rItemsK (tVar 1)) tNil))))))
theorem r_by_greatest {K : PySem.W.Frag} {vs : List V} {H : Hp} {Q : VK} {E : XK} (h : sp_by_greatest K vs H Q E) : t_by_greatest K { nx := fun _ H' => Q .non H', rt := Q } (start n_by_greatest vs) H := by
  obtain ⟨nd, b, rfl, hb1, hb2, q⟩ := h
  refine fg_body (q_setW fun pd hpd => ?_)
  have o : Own (upd H pd (.dK [])) [] (upd H pd (.dK [])) := Own.nil
  refine q_seq (w_forL (w_slW (w_callW (w_one (w_v 0 ⟨o.nod, b, rfl, hb1, hb2, fun p hp => ?_⟩)))))
  replace o := o.new (xs := zv (1 :: MQ.gl b)) hp
  refine eo_is (ev_eq (y := .int ((1 : Nat) : Int)) ev_c rfl) _ (eo_no _ ⟨p, zv (1 :: MQ.gl b), rfl, o.sqi 0 rfl, fun p1 hp1 => ?_⟩)
  rw [cut_fromN]
  replace o : Own (upd H pd (.dK [])) [(p1, zv (MQ.gl b))] _ := (o.new (xs := zv ((1 :: MQ.gl b).drop 1)) hp1).drop2
  have hglen := MQ.gl_len b
  refine ⟨p1, rfl, ⟨_, o.sqi 0 rfl⟩, lp_list (xs := zv (MQ.gl b)) (fun i σ' H' => ∃ (qs : List (Int × Int)) (y2 : Option V), σ' = [some (.int (b : Int)), some (.ref pd), y2] ∧ MQ.Cdict ((MQ.gl b).take i) qs ∧ qs.length ≤ i ∧ Own (upd H pd (.dK (qs.map pK))) [(p1, zv (MQ.gl b))] H') ⟨[], none, rfl, MQ.Cdict.nil, by simp, o⟩ (fun i σ' H' _ hv => ?_) (fun i v σ' H' hx0 hv => ?_) fun σ' H' hv => ?_⟩
  · obtain ⟨_, _, _, _, _, o⟩ := hv
    exact o.sqi 0 rfl
  · clear o
    obtain ⟨qs, y2, rfl, c, hl, o⟩ := hv
    obtain ⟨x, hx, rfl⟩ := zv_some hx0
    have hlt := (List.getElem?_eq_some_iff.mp hx).1
    have etake : (MQ.gl b).take (i + 1) = (MQ.gl b).take i ++ [x] := by rw [List.take_add_one, hx]; rfl
    have hd : H' pd = some (.dK (qs.map pK)) := o.ex _ _ upd_same
    refine w_op (w_v 1 ⟨pd, rfl, .inl ⟨_, .inl hd⟩, w_v 2 (w_c ⟨_, DGet.k (k := Sum.inl (x : Int)) hd, ?_⟩)⟩)
    rw [get_or c]
    refine w_c (r_add (w_v 1 (w_v 2 ⟨pd, _, rfl, DPut.k (k := Sum.inl (x : Int)) hd (by rw [List.length_map]; exact szl (by omega)), MQ.putC qs (x : Int) ((((MQ.gl b).take i).count x : Int) + 1), _, rfl, ?_, ?_, ?_⟩)))
    · rw [etake]; exact c.put x
    · have := MQ.putC_len qs (x : Int) ((((MQ.gl b).take i).count x : Int) + 1)
      omega
    · rw [put_pK]
      have o2 := o.dput (kvs' := (MQ.putC qs (x : Int) ((((MQ.gl b).take i).count x : Int) + 1)).map pK) upd_same
      rw [upd_upd] at o2
      exact o2
  · obtain ⟨qs, y2, rfl, c, hl, o⟩ := hv
    rw [zv_len, List.take_length] at c
    have hd : H' pd = some (.dK (qs.map pK)) := o.ex _ _ upd_same
    refine s_retW (w_cb (w_one (w_bm0 (w_v 1 ⟨ty_dict hd, pd, _, rfl, rfl, hd, fun pi hpi => ?_⟩))))
    have hd2 : upd H' pi (L2.DX.itemsO pi pd) pd = some (.dK (qs.map pK)) := by rw [upd_ne (ne_of_none hd hpi)]; exact hd
    refine ⟨pi, pd, qs, rfl, upd_same, hd2, fun H2 l as qs' hperm hsort hl0 has e2 n2 hlst hlen htup => ?_⟩
    have eq : qs' = gcs b := c.sorted (fun x hx => gl_le hx) hperm hsort
    have eH : Ex H (upd H' pi (L2.DX.itemsO pi pd)) := ex_upd (ex_none (ex_trans (ex_new hpd) o.ex) hpi) (ex_trans (ex_new hpd) o.ex)
    have pr : Prs H2 l as (gcs b) := by
      rw [← eq]
      exact ⟨hlst, hlen, htup⟩
    have hS : ∀ b ∈ l :: as, H b = none ∧ ∃ u, fresh u ∧ H2 b = some u := fun b hb => ⟨by
      rcases List.mem_cons.mp hb with rfl | hb
      · exact ex_none eH hl0
      · exact ex_none eH (has b hb), pr.all b hb⟩
    exact ⟨_, fg_keepS (ex_trans eH e2) hS, q l as _ (hS l List.mem_cons_self).1 (fun b hb => (hS b (List.mem_cons_of_mem _ hb)).1) (keepS_ex fun b hb => (hS b hb).1) (keepS_nod fun b hb => (hS b hb).2) (pr.keep List.mem_cons_self fun b hb => List.mem_cons_of_mem _ hb)⟩
/-! ### with at most -/
/-- how many numbers to b have a greatest part of at most m -/
noncomputable def mw (b : Nat) (m : Int) : Nat := ((MQ.gl b).filter fun (x : Nat) => decide ((x : Int) ≤ m)).length
def sp_many_with (K : PySem.W.Frag) : Sp := fun vs H Q _ => Nod H ∧ ∃ (b : Nat) (m : Int), vs = [.int (b : Int), .int m] ∧ 1 ≤ b ∧ b ≤ 20000 ∧ Q (.int (mw b m : Int)) H
/-- slots: bound most part count -/
abbrev n_many_with : List Str := ["bound", "most", "part", "count"]
def t_many_with (K : PySem.W.Frag) : TS := (sFg (tRet (tCB (rSum K) (tCons (tLc (iList K (tCall (sp_by_greatest K) [] E0 (tCons (tVar 0) tNil))) (gTup K 2 (gCons (gName 2) (gCons (gName 3) gNil))) (tTest (tOp oLe (tVar 2) (tVar 1))) (tVar 3) [2, 3]) tNil))))
theorem r_many_with {K : PySem.W.Frag} {vs : List V} {H : Hp} {Q : VK} {E : XK} (h : sp_many_with K vs H Q E) : t_many_with K { nx := fun _ H' => Q .non H', rt := Q } (start n_many_with vs) H := by
  obtain ⟨nd, b, m, rfl, hb1, hb2, q⟩ := h
  refine fg_body (s_retW (w_cb (w_one (w_lcLW (w_callW (w_one (w_v 0 ⟨nd, b, rfl, hb1, hb2, fun p1 as H1 hp1 has e1 n1 pr => ⟨p1, rfl, ⟨_, sq_at pr.lst⟩, ?_⟩⟩)))))))
  have o : Own H1 [] H1 := Own.nil
  have hlen := gcs_len b
  have hsum := MQ.cts_sum (B := b) (L := MQ.gl b) (fun x hx => gl_le hx) m
  have hsum : (((gcs b).filter fun z => decide (z.1 ≤ m)).map (·.2)).sum = (mw b m : Int) := hsum
  generalize gcs b = qs at pr hlen hsum
  refine lcat_list (K := K) (xs := as.map V.ref) (fun D j H2 => Own H1 [(D, ((((qs.take j).filter fun z => decide (z.1 ≤ m)).map (·.2)).map V.int))] H2) (fun D hD => by simpa using o.new (xs := []) hD) (fun D j H2 hD o => sq_at (o.ex _ _ pr.lst)) (fun D j v H2 hD hj o => ?_) fun D H2 hD o => ?_
  · obtain ⟨b', z, e1', rfl, hz, hb'⟩ := pr.get hj
    have hlt := (List.getElem?_eq_some_iff.mp hz).1
    have etake : qs.take (j + 1) = qs.take j ++ [z] := by rw [List.take_add_one, hz]; rfl
    refine g_pair (o.ex _ _ hb') ⟨rfl, w_evT (et_t (ev_le (i := z.1) (j := m) (ev_v 2) (ev_v 1))) ?_⟩
    by_cases hle : z.1 ≤ m
    · rw [decide_eq_true hle]
      refine iteT (w_v 3 ⟨_, o.atI 0 rfl, ?_, ?_⟩)
      · rw [List.length_map, List.length_map]
        refine szl (Nat.lt_of_le_of_lt (List.length_filter_le _ _) ?_)
        rw [List.length_take]; omega
      · rw [etake, List.filter_append, List.filter_cons_of_pos (by simpa using hle), List.map_append, List.map_append]
        exact o.mut 0 rfl
    · rw [decide_eq_false hle]
      refine iteF ?_
      rw [etake, List.filter_append, List.filter_cons_of_neg (by simpa using hle), List.filter_nil, List.append_nil]
      exact o
  · rw [List.length_map, pr.len, List.take_length] at o
    refine ⟨D, _, rfl, o.sqi 0 rfl, ⟨H, fg_same (ex_trans e1 o.ex), ?_⟩⟩
    rw [hsum]
    exact q
end Px
set_option Elab.async false
set_option linter.all false
set_option maxRecDepth 100000
set_option maxHeartbeats 4000000
namespace Px
open PySem L2 MA
local macro_rules | `(tactic| bv_omega) => `(tactic| first | assumption | omega | exact cm (by omega) | exact cd (by omega) | exact cp (by omega) | exact trivial)
local macro_rules | `(tactic| array_get_dec) => `(tactic| first
  | assumption
  | exact sq_up
  | exact Own.sqi (by assumption) 0 (by rfl)
  | exact Own.sqi (by assumption) 1 (by rfl)
  | exact Own.sqi (by assumption) 2 (by rfl)
  | exact Own.sqi (by assumption) 3 (by rfl)
  | exact Own.sqi (by assumption) 4 (by rfl)
  | exact Own.sq (by assumption) (by assumption)
  | exact sq_new (by assumption) (by assumption))
local macro_rules | `(tactic| clean_wf) => `(tactic| first
  | with_reducible exact ev_c
  | (with_reducible apply ev_v') <;> rfl
  | (with_reducible apply ev_add) <;> clean_wf
  | (with_reducible apply ev_sub) <;> clean_wf
  | (with_reducible apply ev_mul) <;> clean_wf
  | (with_reducible apply ev_mod) <;> clean_wf
  | (with_reducible apply ev_div) <;> clean_wf
  | (with_reducible apply ev_pow) <;> clean_wf
  | (with_reducible apply ev_neg) <;> clean_wf
  | (with_reducible apply ev_lt) <;> clean_wf
  | (with_reducible apply ev_le) <;> clean_wf
  | (with_reducible apply ev_gt) <;> clean_wf
  | (with_reducible apply ev_ge) <;> clean_wf
  | (with_reducible apply ev_eqi) <;> clean_wf
  | (with_reducible apply ev_nei) <;> clean_wf
  | (with_reducible apply ev_len) <;> clean_wf
  | (with_reducible apply ev_ixL) <;> clean_wf
  | (with_reducible apply ev_min) <;> clean_wf
  | (with_reducible apply ev_max) <;> clean_wf
  | (with_reducible apply ev_abs) <;> clean_wf
  | (with_reducible apply ev_intB) <;> clean_wf
  | (with_reducible apply ea_1) <;> clean_wf
  | (with_reducible apply ea_2) <;> clean_wf
  | (with_reducible apply ea_3) <;> clean_wf
  | with_reducible exact ea_nil
  | (with_reducible apply ea_cons) <;> clean_wf
  | with_reducible exact el_nil
  | (with_reducible apply ep_lt) <;> clean_wf
  | (with_reducible apply ep_le) <;> clean_wf
  | (with_reducible apply ep_gt) <;> clean_wf
  | (with_reducible apply ep_ge) <;> clean_wf
  | (with_reducible apply ep_eqi) <;> clean_wf
  | (with_reducible apply ep_nei) <;> clean_wf
  | (with_reducible apply ep_not) <;> clean_wf
  | ((with_reducible apply ep_and) <;> first | (intro _; clean_wf; done) | clean_wf)
  | ((with_reducible apply ep_or) <;> first | (intro _; clean_wf; done) | clean_wf)
  | (with_reducible apply et_t) <;> clean_wf
  | (with_reducible apply eo_is) <;> clean_wf
  | with_reducible exact eo_no
  | array_get_dec
  | bv_omega
  | rfl
  | skip)
local macro_rules | `(tactic| symm_saturate) => `(tactic| first
  | ((with_reducible apply q_set); (focus (clean_wf; done)))
  | ((with_reducible apply s_set); (focus (clean_wf; done)))
  | ((with_reducible apply q_aug (hx := rfl)); (focus (clean_wf; done)))
  | ((with_reducible apply s_aug (hx := rfl)); (focus (clean_wf; done)))
  | ((with_reducible apply q_augC (hx := rfl)); (focus (clean_wf; done)))
  | ((with_reducible apply s_augC (hx := rfl)); (focus (clean_wf; done))))
local macro_rules | `(tactic| subst_eqs) => `(tactic| repeat' (first
  | with_reducible apply w_c
  | ((with_reducible apply w_v'); (focus rfl))
  | with_reducible apply w_op
  | with_reducible apply w_cb
  | with_reducible apply w_cons
  | with_reducible apply w_nil
  | with_reducible apply r_add
  | with_reducible apply r_sub
  | ((with_reducible apply r_mul); (focus (bv_omega; done)))
  | ((with_reducible apply r_div); (focus (bv_omega; done)))
  | ((with_reducible apply r_mod); (focus (bv_omega; done)))
  | ((with_reducible apply r_pow); (focus (bv_omega; done)))
  | with_reducible apply r_lt
  | with_reducible apply r_le
  | with_reducible apply r_gt
  | with_reducible apply r_ge
  | with_reducible apply r_min
  | with_reducible apply r_max
  | with_reducible apply r_intB
  | ((with_reducible apply r_len); (focus (array_get_dec; done)))
  | with_reducible apply w_callW
  | with_reducible apply q_setW
  | with_reducible apply s_setW
  | with_reducible apply s_retW))

/-- a list that a call has made is one's own -/
theorem Own.adopt {B H H' : Hp} {L : List (Addr × List V)} {p : Addr} {xs : List V} (o : Own B L H) (e : Ex H H') (n : Nod H') (h0 : H p = none) (h1 : H' p = some (.lst xs)) : Own B ((p, xs) :: L) H' where
  nod := n
  ex := ex_trans o.ex e
  off := fun q hq => by
    rcases List.mem_cons.mp hq with rfl | hq
    · exact ex_none o.ex h0
    · exact o.off q hq
  dis := by
    rw [List.map_cons, List.nodup_cons]
    refine ⟨fun z => ?_, o.dis⟩
    obtain ⟨q, hq, eq⟩ := List.mem_map.mp z
    have := o.has q hq
    rw [eq, h0] at this
    cases this
  has := fun q hq => by
    rcases List.mem_cons.mp hq with rfl | hq
    · exact h1
    · exact e _ _ (o.has q hq)
/-! ### pairs that are made one by one -/
structure PrB (H B : Hp) (as : List Addr) (qs : List (Int × Int)) : Prop where
  ex : Ex H B
  len : as.length = qs.length
  new : ∀ b ∈ as, H b = none
  tup : ∀ (i : Nat) (b : Addr) (q : Int × Int), as[i]? = some b → qs[i]? = some q → B b = some (.tup (pvals q))
theorem PrB.nil {H : Hp} : PrB H H [] [] := ⟨ex_refl, rfl, (fun _ h => (List.not_mem_nil h).elim), fun i b q h => by simp at h⟩
theorem PrB.snoc {H B : Hp} {as : List Addr} {qs : List (Int × Int)} {t : Addr} {q : Int × Int} (c : PrB H B as qs) (ht : B t = none) : PrB H (upd B t (.tup (pvals q))) (as ++ [t]) (qs ++ [q]) where
  ex := ex_trans c.ex (ex_new ht)
  len := by simp [c.len]
  new := fun b hb => by
    rcases List.mem_append.mp hb with hb | hb
    · exact c.new b hb
    · rw [List.mem_singleton.mp hb]; exact ex_none c.ex ht
  tup := fun k b y h1 h2 => by
    have hl := c.len
    rcases Nat.lt_or_ge k as.length with z | z
    · rw [List.getElem?_append_left z] at h1
      rw [List.getElem?_append_left (by omega)] at h2
      have := c.tup k b y h1 h2
      rw [upd_ne (fun w => by rw [w, ht] at this; cases this)]
      exact this
    · rw [List.getElem?_append_right z] at h1
      rw [List.getElem?_append_right (by omega)] at h2
      have hk : k - as.length = 0 := by
        rcases Nat.eq_zero_or_pos (k - as.length) with y | y
        · exact y
        · rw [List.getElem?_eq_none (by simp; omega)] at h1; cases h1
      rw [hk] at h1
      rw [← hl, hk] at h2
      cases h1
      cases h2
      exact upd_same
theorem PrB.prs {H B H' : Hp} {as : List Addr} {qs : List (Int × Int)} {p : Addr} (c : PrB H B as qs) (e : Ex B H') (h : H' p = some (.lst (as.map V.ref))) : Prs H' p as qs := ⟨h, c.len, fun i b q h1 h2 => e _ _ (c.tup i b q h1 h2)⟩
/-- such a list is what a def gives back -/
theorem NewP.fg {H H' : Hp} {as : List Addr} {qs : List (Int × Int)} {p : Addr} {Q : VK} [Nod H] (q : NewP H qs Q) (e : Ex H H') (pr : Prs H' p as qs) (h0 : H p = none) (hnew : ∀ b ∈ as, H b = none) : ∃ H'', Fg H H' H'' ∧ Q (.ref p) H'' := by
  have hS : ∀ b ∈ p :: as, H b = none ∧ ∃ u, fresh u ∧ H' b = some u := fun b hb => ⟨by
    rcases List.mem_cons.mp hb with rfl | hb
    · exact h0
    · exact hnew b hb, pr.all b hb⟩
  exact ⟨_, fg_keepS e hS, q p as _ h0 hnew (keepS_ex fun b hb => (hS b hb).1) (keepS_nod fun b hb => (hS b hb).2) (pr.keep List.mem_cons_self fun b hb => List.mem_cons_of_mem _ hb)⟩
theorem PrB.ret {H B H' : Hp} {L : List (Addr × List V)} {as : List Addr} {qs : List (Int × Int)} {p : Addr} {Q : VK} [Nod H] (c : PrB H B as qs) (o : Own B L H') (i : Nat) (hi : L[i]? = some (p, as.map V.ref)) (q : NewP H qs Q) : ∃ H'', Fg H H' H'' ∧ Q (.ref p) H'' :=
  q.fg (ex_trans c.ex o.ex) (c.prs o.ex (o.atI i hi)) (ex_none c.ex (o.offI i hi)) c.new
/-- what a call has made is part of the base -/
theorem Own.prsB {B H H' : Hp} {L : List (Addr × List V)} {p : Addr} {as : List Addr} {qs : List (Int × Int)} (o : Own B L H) (hp : H p = none) (has : ∀ b ∈ as, H b = none) (e : Ex H H') (n : Nod H') (pr : Prs H' p as qs) : ∃ B', Ex B B' ∧ Own B' L H' ∧ Prs B' p as qs := by
  have hS : ∀ b ∈ p :: as, H b = none := fun b hb => by
    rcases List.mem_cons.mp hb with rfl | hb
    · exact hp
    · exact has b hb
  exact ⟨keepS B H' (p :: as), keepS_ex fun b hb => ex_none o.ex (hS b hb), o.keepB e n (p :: as) hS, pr.keep List.mem_cons_self fun b hb => List.mem_cons_of_mem _ hb⟩
theorem Prs.ne {H : Hp} {p : Addr} {as : List Addr} {qs : List (Int × Int)} {a : Addr} {xs : List V} (pr : Prs H p as qs) (h : H a = some (.lst xs)) : ∀ b ∈ as, b ≠ a := fun b hb z => by
  obtain ⟨i, hi⟩ := List.mem_iff_getElem?.mp hb
  have hlt : i < qs.length := by rw [← pr.len]; exact (List.getElem?_eq_some_iff.mp hi).1
  have := pr.tup i b _ hi (List.getElem?_eq_getElem hlt)
  rw [z, h] at this
  cases this
theorem Prs.del {H : Hp} {p a : Addr} {as : List Addr} {qs : List (Int × Int)} {xs : List V} (pr : Prs H p as qs) (h : H a = some (.lst xs)) (hp : p ≠ a) : Prs (del H a) p as qs :=
  ⟨by rw [del_ne hp]; exact pr.lst, pr.len, fun i b q h1 h2 => by rw [del_ne (pr.ne h b (List.mem_of_getElem? h1))]; exact pr.tup i b q h1 h2⟩
/-- written pairs -/
def tPairs : List (Int × Int) → TA
  | [] => tNil
  | q :: r => tCons (tTup (tCons (tC (.int q.1)) (tCons (tC (.int q.2)) tNil))) (tPairs r)
theorem w_pairs {σ : L2.St} : ∀ (qs : List (Int × Int)) {B H : Hp} {L : List (Addr × List V)} {Q : List V → Hp → Prop}, Own B L H → (∀ B' as H', PrB B B' as qs → Own B' L H' → Q (as.map V.ref) H') → tPairs qs σ H Q
  | [], B, H, L, Q, o, k => k B [] H .nil o
  | q :: r, B, H, L, Q, o, k => by
    refine w_cons (w_tupW (ea_2 ev_c ev_c _ ⟨by show 2 ≤ sizeLine; decide, fun t ht => ?_⟩))
    have o2 := o.tupB (xs := pvals q) ht
    have htB := ex_none o.ex ht
    refine w_pairs r o2 fun B' as H' c o' => ?_
    refine k B' (t :: as) H' ⟨ex_trans (ex_new htB) c.ex, by simp [c.len], fun b hb => ?_, fun i b z h1 h2 => ?_⟩ o'
    · rcases List.mem_cons.mp hb with rfl | hb
      · exact htB
      · exact ex_none (ex_new htB) (c.new b hb)
    · cases i with
      | zero => cases h1; cases h2; exact c.ex _ _ upd_same
      | succ i => exact c.tup i b z (by simpa using h1) (by simpa using h2)
theorem w_pairsL {K : PySem.W.Frag} {σ : L2.St} {B H : Hp} {L : List (Addr × List V)} {Q : VK} (qs : List (Int × Int)) (hz : qs.length ≤ 1000) (o : Own B L H) (k : ∀ B' as p H', Ex B B' → Own B' ((p, as.map V.ref) :: L) H' → Prs H' p as qs → Q (.ref p) H') : tLst (tPairs qs) σ H Q :=
  w_lst (w_pairs qs o fun B' as H' c o' => ⟨by rw [List.length_map, c.len]; exact Nat.le_trans hz (by decide), fun p hp => by
    have o2 := o'.new (xs := as.map V.ref) hp
    exact k B' as p _ c.ex o2 (c.prs o2.ex (o2.atI 0 rfl))⟩)
/-- [te for x in range(lo, hi) if t], anything may be made on the way -/
theorem w_lcR2 {σ : L2.St} {H : Hp} {ta : TA} {t : TT} {te : TE} {n : Nat} {lo k : Int} {vs : List Nat} {Q : VK} (h : EvA ta σ H [.int lo, .int k]) (hk : -(2 ^ 60) < lo ∧ lo < 2 ^ 60 ∧ -(2 ^ 60) < k ∧ k < 2 ^ 60) (Pv : Addr → Nat → Hp → Prop) (h0 : ∀ D, H D = none → Pv D 0 (upd H D (.lst [])))
    (hw : ∀ x, wipe ((wipe σ vs).set n (some x)) vs = wipe σ vs) (hs : ∀ D (i : Nat) H', H D = none → i < (k - lo).toNat → Pv D i H' → t ((wipe σ vs).set n (some (.int (lo + (i : Int))))) H' fun b H3 => if b = true then te ((wipe σ vs).set n (some (.int (lo + (i : Int))))) H3 fun y H4 => ∃ acc, H4 D = some (.lst acc) ∧ acc.length < sizeLine ∧ Pv D (i + 1) (upd H4 D (.lst (acc ++ [y]))) else Pv D (i + 1) H3)
    (hd : ∀ D H', H D = none → Pv D (k - lo).toNat H' → Q (.ref D) H') : tLc (iRng2 ta) (gName n) t te vs σ H Q := h _ ⟨lo, k, rfl, by omega, fun D hD =>
  lc_range (lo := lo) (n := (k - lo).toNat) (Pv D) (h0 D hD) (fun i H' hi hv => ⟨hw _, hs D i H' hD hi hv⟩) (fun H' hv => hd D H' hD hv)⟩
theorem w_viaV {T : VK → Prop} {R : VK} (I : V → Hp → Prop) (h : ∀ R' : VK, (∀ v H5, I v H5 → R' v H5) → T R') (k : ∀ v H5, I v H5 → R v H5) : T R := h R k
theorem for_cellsP {K : PySem.W.Frag} {σ : L2.St} {H : Hp} {D : Ends} {tu s2 : TS} {ta : TA} {n1 n2 : Nat} {a ph : Addr} {u0 : HO} {ns : List Int} {m : Nat} [nd : Nod H] (h : EvA ta σ H [.ref a, .int (m : Int)]) (ha : SqL K H a (ns.map V.int)) (hl : ns.length ≤ 63) (hph : H ph = some u0) (I : Nat → L2.St → Hp → Prop) (h0 : ∀ H1, Ex H H1 → Nod H1 → I 0 σ H1)
    (hs : ∀ (C : Hp → Prop), (∀ H2 H3, C H2 → Ex (del H2 ph) H3 → C H3) → ∀ (i : Nat) (c : Int) σ' H', i < 63 → I i σ' H' → C H' → Nod H' → tu { D with nx := fun σ2 H2 => I (i + 1) σ2 H2 ∧ C H2 ∧ Nod H2, ct := fun σ2 H2 => I (i + 1) σ2 H2 ∧ C H2 ∧ Nod H2, bk := s2 D } ((σ'.set n1 (some (.int (i : Int)))).set n2 (some (.int c))) H')
    (hd : ∀ i σ' H', I i σ' H' → Nod H' → s2 D σ' H') : tSeq (tFor (iList K (tCall (sp_law_cells K) [] E0 ta)) (gTup K 2 (gCons (gName n1) (gCons (gName n2) gNil))) tu) s2 D σ H := by
  refine q_seq (w_forL (w_call h ⟨nd, a, ns, m, rfl, ha, hl, fun l as cs H1 hc e1 n1' C hnew => ⟨l, rfl, ⟨_, sq_at C.lst⟩, ?_⟩⟩))
  have keep : ∀ H2 H3, Cells H2 l as cs → Ex (del H2 ph) H3 → Cells H3 l as cs := fun H2 H3 c e => ⟨e _ _ (by rw [del_ne (hnew ph u0 hph).1]; exact c.lst), c.len, fun i b x h1 h2 => e _ _ (by
    have hb : b ≠ ph := fun z => (hnew ph u0 hph).2 (by rw [← z]; exact List.mem_of_getElem? h1)
    rw [del_ne hb]; exact c.tup i b x h1 h2)⟩
  refine lp_list (xs := as.map V.ref) (fun i σ' H' => I i σ' H' ∧ Cells H' l as cs ∧ Nod H') ⟨h0 H1 e1 n1', C, n1'⟩ (fun i σ' H' _ hv => sq_at hv.2.1.lst) (fun i x σ' H' hi hv => ?_) (fun σ' H' hv => hd _ σ' H' hv.1 hv.2.2)
  rw [List.getElem?_map] at hi
  cases e : as[i]? with
  | none => rw [e] at hi; cases hi
  | some b =>
    rw [e] at hi
    cases hi
    have hlt : i < cs.length := by rw [← C.len]; exact (List.getElem?_eq_some_iff.mp e).1
    have hx := List.getElem?_eq_getElem hlt
    refine ⟨b, _, rfl, st_at (hv.2.1.tup i b _ e hx), rfl, _, _, rfl, _, _, rfl, rfl, ?_⟩
    exact hs (fun H => Cells H l as cs) keep i cs[i] σ' H' (by omega) hv.1 hv.2.1 hv.2.2
end Px
set_option linter.all false
set_option maxHeartbeats 1000000
namespace MQ
/-! ### prime parts -/
def pprod : List (Nat × Nat) → Nat
  | [] => 1
  | z :: r => z.1 ^ z.2 * pprod r
theorem pprod_app (F G : List (Nat × Nat)) : pprod (F ++ G) = pprod F * pprod G := by
  induction F with
  | nil => simp [pprod]
  | cons z r ih => simp only [List.cons_append, pprod, ih, Nat.mul_assoc]
structure IsPf (n : Nat) (F : List (Nat × Nat)) : Prop where
  prod : pprod F = n
  up : F.Pairwise fun x y => x.1 < y.1
  pr : ∀ z ∈ F, Pr z.1 ∧ 1 ≤ z.2
theorem pr_pow {p q : Nat} (hp : Pr p) (hq : Pr q) : ∀ {t : Nat}, p ∣ q ^ t → p = q
  | 0, h => by
    have h1 := Nat.le_of_dvd (by simp) h
    have h2 := hp.1
    simp at h1
    omega
  | t + 1, h => by
    rw [Nat.pow_succ] at h
    rcases pr_mul hp h with y | y
    · exact pr_pow hp hq y
    · rcases hq.2 p y with z | z
      · have := hp.1; omega
      · exact z
theorem pprod_dvd {p : Nat} (hp : Pr p) : ∀ {F : List (Nat × Nat)}, (∀ z ∈ F, Pr z.1) → p ∣ pprod F → ∃ z ∈ F, z.1 = p
  | [], _, h => by
    have h1 := Nat.le_of_dvd (by simp [pprod]) h
    have h2 := hp.1
    simp [pprod] at h1
    omega
  | z :: r, hF, h => by
    rcases pr_mul hp h with y | y
    · exact ⟨z, List.mem_cons_self, (pr_pow hp (hF z List.mem_cons_self) y).symm⟩
    · obtain ⟨w, hw, e⟩ := pprod_dvd hp (fun w hw => hF w (List.mem_cons_of_mem _ hw)) y
      exact ⟨w, List.mem_cons_of_mem _ hw, e⟩
theorem dvd_pprod : ∀ {F : List (Nat × Nat)} {z : Nat × Nat}, z ∈ F → 1 ≤ z.2 → z.1 ∣ pprod F
  | w :: r, z, h, h1 => by
    rcases List.mem_cons.mp h with e | h
    · subst e
      refine Nat.dvd_trans ?_ (Nat.dvd_mul_right _ _)
      obtain ⟨t, ht⟩ : ∃ t, z.2 = t + 1 := ⟨z.2 - 1, by omega⟩
      rw [ht, Nat.pow_succ]
      exact Nat.dvd_mul_left _ _
    · exact Nat.dvd_trans (dvd_pprod h h1) (Nat.dvd_mul_left _ _)
theorem pprod_pos : ∀ {F : List (Nat × Nat)}, (∀ z ∈ F, Pr z.1) → 0 < pprod F
  | [], _ => by simp [pprod]
  | z :: r, h => Nat.mul_pos (Nat.pow_pos (by have := (h z List.mem_cons_self).1; omega)) (pprod_pos fun w hw => h w (List.mem_cons_of_mem _ hw))
theorem IsPf.tail {z : Nat × Nat} {r : List (Nat × Nat)} {n : Nat} (h : IsPf n (z :: r)) : IsPf (pprod r) r := ⟨rfl, (List.pairwise_cons.mp h.up).2, fun w hw => h.pr w (List.mem_cons_of_mem _ hw)⟩
theorem IsPf.ndvd {z : Nat × Nat} {r : List (Nat × Nat)} {n : Nat} (h : IsPf n (z :: r)) : ¬ z.1 ∣ pprod r := fun y => by
  obtain ⟨w, hw, e⟩ := pprod_dvd (h.pr z List.mem_cons_self).1 (fun w hw => (h.pr w (List.mem_cons_of_mem _ hw)).1) y
  have := (List.pairwise_cons.mp h.up).1 w hw
  omega
theorem IsPf.uniq : ∀ {F G : List (Nat × Nat)} {n : Nat}, IsPf n F → IsPf n G → F = G
  | [], [], _, _, _ => rfl
  | [], w :: s, n, hF, hG => by
    have h1 := dvd_pprod (F := w :: s) List.mem_cons_self (hG.pr w List.mem_cons_self).2
    rw [hG.prod, ← hF.prod] at h1
    have h2 := Nat.le_of_dvd (by simp [pprod]) h1
    have h3 := (hG.pr w List.mem_cons_self).1.1
    simp [pprod] at h2
    omega
  | z :: r, [], n, hF, hG => by
    have h1 := dvd_pprod (F := z :: r) List.mem_cons_self (hF.pr z List.mem_cons_self).2
    rw [hF.prod, ← hG.prod] at h1
    have h2 := Nat.le_of_dvd (by simp [pprod]) h1
    have h3 := (hF.pr z List.mem_cons_self).1.1
    simp [pprod] at h2
    omega
  | z :: r, w :: s, n, hF, hG => by
    have hz := hF.pr z List.mem_cons_self
    have hw := hG.pr w List.mem_cons_self
    have le1 : w.1 ≤ z.1 := by
      have h1 := dvd_pprod (F := z :: r) List.mem_cons_self hz.2
      rw [hF.prod, ← hG.prod] at h1
      obtain ⟨y, hy, e⟩ := pprod_dvd hz.1 (fun y hy => (hG.pr y hy).1) h1
      rcases List.mem_cons.mp hy with rfl | hy
      · omega
      · have := (List.pairwise_cons.mp hG.up).1 y hy
        omega
    have le2 : z.1 ≤ w.1 := by
      have h1 := dvd_pprod (F := w :: s) List.mem_cons_self hw.2
      rw [hG.prod, ← hF.prod] at h1
      obtain ⟨y, hy, e⟩ := pprod_dvd hw.1 (fun y hy => (hF.pr y hy).1) h1
      rcases List.mem_cons.mp hy with rfl | hy
      · omega
      · have := (List.pairwise_cons.mp hF.up).1 y hy
        omega
    have e1 : z.1 = w.1 := by omega
    have hp : pprod r * z.1 ^ z.2 = pprod s * z.1 ^ w.2 := by
      have h1 : z.1 ^ z.2 * pprod r = n := hF.prod
      have h2 : w.1 ^ w.2 * pprod s = n := hG.prod
      rw [Nat.mul_comm, h1, e1, Nat.mul_comm, h2]
    have hnd := hG.ndvd
    rw [← e1] at hnd
    obtain ⟨e2, e3⟩ := MA.split_eq hz.1.1 hF.ndvd hnd hp
    have e4 : r = s := by
      have h2 := hG.tail
      rw [← e3] at h2
      exact IsPf.uniq hF.tail h2
    have : z = w := Prod.ext e1 e2
    rw [this, e4]
/-- where the search for parts stands -/
structure Tpf (n : Nat) (F : List (Nat × Nat)) (m d : Nat) : Prop where
  m0 : 0 < m
  mn : m ≤ n
  prod : pprod F * m = n
  up : F.Pairwise fun x y => x.1 < y.1
  pr : ∀ z ∈ F, Pr z.1 ∧ 1 ≤ z.2
  lt : ∀ z ∈ F, z.1 < d
  ge : ∀ p, Pr p → p ∣ m → d ≤ p
theorem Tpf.start {n : Nat} (h : 0 < n) : Tpf n [] n 2 := ⟨h, Nat.le_refl _, by simp [pprod], List.Pairwise.nil, (fun _ h => (List.not_mem_nil h).elim), (fun _ h => (List.not_mem_nil h).elim), fun p hp _ => hp.1⟩
theorem Tpf.skip {n m d : Nat} {F : List (Nat × Nat)} (t : Tpf n F m d) (h : m % d ≠ 0) : Tpf n F m (d + 1) := ⟨t.m0, t.mn, t.prod, t.up, t.pr, fun z hz => by have := t.lt z hz; omega, fun p h1 h2 => by
  have := t.ge p h1 h2
  rcases Nat.lt_or_ge d p with z | z
  · omega
  · have : p = d := by omega
    subst this
    exact absurd (Nat.mod_eq_zero_of_dvd h2) h⟩
theorem Tpf.take {n m m' d k : Nat} {F : List (Nat × Nat)} (t : Tpf n F m d) (h2 : 2 ≤ d) (hk : 1 ≤ k) (e : m = m' * d ^ k) (h : m' % d ≠ 0) : Tpf n (F ++ [(d, k)]) m' (d + 1) := by
  have hm0 : 0 < m' := by
    rcases Nat.eq_zero_or_pos m' with z | z
    · subst z; simp at h
    · exact z
  have hdm : d ∣ m := by
    obtain ⟨j, rfl⟩ : ∃ j, k = j + 1 := ⟨k - 1, by omega⟩
    rw [e, Nat.pow_succ, ← Nat.mul_assoc]
    exact Nat.dvd_mul_left _ _
  have hp := pr_of_least h2 t.ge hdm
  have hle : m' ≤ m := by rw [e]; exact Nat.le_mul_of_pos_right _ (Nat.pow_pos (by omega))
  refine ⟨hm0, by have := t.mn; omega, ?_, ?_, fun z hz => ?_, fun z hz => ?_, fun p h1 h3 => ?_⟩
  · rw [pprod_app, Nat.mul_assoc]
    show pprod F * (d ^ k * 1 * m') = n
    rw [Nat.mul_one, Nat.mul_comm (d ^ k), ← e, t.prod]
  · rw [List.pairwise_append]
    exact ⟨t.up, List.pairwise_singleton _ _, fun z hz w hw => by rw [List.mem_singleton.mp hw]; exact t.lt z hz⟩
  · rcases List.mem_append.mp hz with y | y
    · exact t.pr z y
    · rw [List.mem_singleton.mp y]; exact ⟨hp, hk⟩
  · rcases List.mem_append.mp hz with y | y
    · have := t.lt z y; omega
    · rw [List.mem_singleton.mp y]; show d < d + 1; omega
  · have h4 : p ∣ m := Nat.dvd_trans h3 (by rw [e]; exact Nat.dvd_mul_right _ _)
    have := t.ge p h1 h4
    rcases Nat.lt_or_ge d p with z | z
    · omega
    · have : p = d := by omega
      subst this
      exact absurd (Nat.mod_eq_zero_of_dvd h3) h
theorem Tpf.one {n d : Nat} {F : List (Nat × Nat)} (t : Tpf n F 1 d) : IsPf n F := ⟨by have := t.prod; rw [Nat.mul_one] at this; exact this, t.up, t.pr⟩
theorem Tpf.last {n m d : Nat} {F : List (Nat × Nat)} (t : Tpf n F m d) (h2 : 2 ≤ m) (h : m < d * d) : IsPf n (F ++ [(m, 1)]) := by
  have hp := pr_of_sq h2 t.ge h
  refine ⟨?_, ?_, fun z hz => ?_⟩
  · rw [pprod_app]
    show pprod F * (m ^ 1 * 1) = n
    rw [Nat.pow_one, Nat.mul_one, t.prod]
  · rw [List.pairwise_append]
    exact ⟨t.up, List.pairwise_singleton _ _, fun z hz w hw => by
      rw [List.mem_singleton.mp hw]
      have h1 := t.lt z hz
      have h3 := t.ge m hp (Nat.dvd_refl m)
      show z.1 < m
      omega⟩
  · rcases List.mem_append.mp hz with y | y
    · exact t.pr z y
    · rw [List.mem_singleton.mp y]; exact ⟨hp, Nat.le_refl _⟩
theorem IsPf.pos {n : Nat} {F : List (Nat × Nat)} (h : IsPf n F) : 0 < n := by rw [← h.prod]; exact pprod_pos fun z hz => (h.pr z hz).1
theorem IsPf.mem {n p : Nat} {F : List (Nat × Nat)} (h : IsPf n F) (hp : Pr p) : p ∣ n ↔ ∃ z ∈ F, z.1 = p := by
  constructor
  · intro hd
    rw [← h.prod] at hd
    exact pprod_dvd hp (fun z hz => (h.pr z hz).1) hd
  · rintro ⟨z, hz, rfl⟩
    rw [← h.prod]
    exact dvd_pprod hz (h.pr z hz).2
theorem IsPf.nil_iff {n : Nat} {F : List (Nat × Nat)} (h : IsPf n F) : F = [] ↔ n = 1 := by
  constructor
  · intro e; subst e; exact h.prod.symm
  · intro e
    subst e
    exact h.uniq ⟨rfl, List.Pairwise.nil, fun _ h => (List.not_mem_nil h).elim⟩
theorem IsPf.gp {n : Nat} {F : List (Nat × Nat)} {z : Nat × Nat} (h : IsPf n F) (hl : F.getLast? = some z) : z.1 = gp n := by
  have hz : z ∈ F := List.mem_of_getLast? hl
  have hpz := h.pr z hz
  have hd : z.1 ∣ n := (h.mem hpz.1).mpr ⟨z, hz, rfl⟩
  have hn := h.pos
  have h2 : 2 ≤ n := Nat.le_trans hpz.1.1 (Nat.le_of_dvd hn hd)
  refine gp_uniq h2 hpz.1 hd fun p hp hpn => ?_
  obtain ⟨w, hw, rfl⟩ := (h.mem hp).mp hpn
  obtain ⟨G, rfl⟩ := List.getLast?_eq_some_iff.mp hl
  rcases List.mem_append.mp hw with y | y
  · have := (List.pairwise_append.mp h.up).2.2 w y z (List.mem_singleton.mpr rfl)
    omega
  · rw [List.mem_singleton.mp y]; exact Nat.le_refl _
theorem pf_prime {p : Nat} (hp : Pr p) : IsPf p [(p, 1)] := ⟨by show p ^ 1 * 1 = p; rw [Nat.pow_one, Nat.mul_one], List.pairwise_singleton _ _, fun z hz => by rw [List.mem_singleton.mp hz]; exact ⟨hp, Nat.le_refl _⟩⟩
theorem pf_len {n : Nat} {F : List (Nat × Nat)} (h : IsPf n F) : 2 ^ F.length ≤ n := by
  rw [← h.prod]
  have := h.pr
  clear h
  induction F with
  | nil => simp [pprod]
  | cons z r ih =>
    have h1 := ih fun w hw => this w (List.mem_cons_of_mem _ hw)
    obtain ⟨hz, ht⟩ := this z List.mem_cons_self
    have h2 : 2 ≤ z.1 ^ z.2 := by
      obtain ⟨t, e⟩ : ∃ t, z.2 = t + 1 := ⟨z.2 - 1, by omega⟩
      rw [e, Nat.pow_succ]
      exact Nat.le_trans hz.1 (Nat.le_mul_of_pos_left _ (Nat.pow_pos (by have := hz.1; omega)))
    show 2 ^ (r.length + 1) ≤ z.1 ^ z.2 * pprod r
    rw [Nat.pow_succ, Nat.mul_comm]
    exact Nat.mul_le_mul h2 h1
/-! ### made of the first primes -/
theorem mk_gp {row : List Nat} {m : Nat} (hr : ∀ p ∈ row, Pr p ∧ p ≤ m) (h1 : 1 ≤ m) {n : Nat} (h : MA.Mk row n) : gp n ≤ m := by
  induction h with
  | one => rw [gp_one]; exact h1
  | mul hp hn ih =>
    have h0 := MA.mk_pos (fun p hp => (hr p hp).1.1) hn
    rw [gp_mul (hr _ hp).1 h0]
    have := (hr _ hp).2
    omega
theorem gp_mk {row : List Nat} {m : Nat} (hr : ∀ p, Pr p → p ≤ m → p ∈ row) : ∀ {n : Nat}, 0 < n → gp n ≤ m → MA.Mk row n := by
  intro n
  induction n using Nat.strongRecOn with
  | ind n ih =>
    intro h0 hm
    rcases Nat.lt_or_ge n 2 with z | z
    · have : n = 1 := by omega
      subst this
      exact .one
    · obtain ⟨hp, ⟨c, hc⟩, _⟩ := gp_spec z
      have hc0 : 0 < c := by
        rcases Nat.eq_zero_or_pos c with y | y
        · subst y; simp at hc; omega
        · exact y
      have hlt : c < n := by
        have h2 := hp.1
        have h3 : 2 * c ≤ gp n * c := Nat.mul_le_mul_right c h2
        omega
      have hg : gp c ≤ gp n := by
        have e := gp_mul hp hc0
        rw [← hc] at e
        omega
      rw [hc]
      exact .mul (hr _ hp hm) (ih c hlt hc0 (by omega))
end MQ
set_option Elab.async false
set_option linter.all false
set_option maxRecDepth 100000
set_option maxHeartbeats 4000000
namespace Px
open PySem L2 MA
local macro_rules | `(tactic| bv_omega) => `(tactic| first | assumption | omega | exact cm (by omega) | exact cd (by omega) | exact cp (by omega) | exact trivial)
local macro_rules | `(tactic| array_get_dec) => `(tactic| first
  | assumption
  | exact sq_up
  | exact Own.sqi (by assumption) 0 (by rfl)
  | exact Own.sqi (by assumption) 1 (by rfl)
  | exact Own.sqi (by assumption) 2 (by rfl)
  | exact Own.sqi (by assumption) 3 (by rfl)
  | exact Own.sqi (by assumption) 4 (by rfl)
  | exact Own.sq (by assumption) (by assumption)
  | exact sq_new (by assumption) (by assumption))
local macro_rules | `(tactic| clean_wf) => `(tactic| first
  | with_reducible exact ev_c
  | (with_reducible apply ev_v') <;> rfl
  | (with_reducible apply ev_add) <;> clean_wf
  | (with_reducible apply ev_sub) <;> clean_wf
  | (with_reducible apply ev_mul) <;> clean_wf
  | (with_reducible apply ev_mod) <;> clean_wf
  | (with_reducible apply ev_div) <;> clean_wf
  | (with_reducible apply ev_pow) <;> clean_wf
  | (with_reducible apply ev_neg) <;> clean_wf
  | (with_reducible apply ev_lt) <;> clean_wf
  | (with_reducible apply ev_le) <;> clean_wf
  | (with_reducible apply ev_gt) <;> clean_wf
  | (with_reducible apply ev_ge) <;> clean_wf
  | (with_reducible apply ev_eqi) <;> clean_wf
  | (with_reducible apply ev_nei) <;> clean_wf
  | (with_reducible apply ev_len) <;> clean_wf
  | (with_reducible apply ev_ixL) <;> clean_wf
  | (with_reducible apply ev_min) <;> clean_wf
  | (with_reducible apply ev_max) <;> clean_wf
  | (with_reducible apply ev_abs) <;> clean_wf
  | (with_reducible apply ev_intB) <;> clean_wf
  | (with_reducible apply ea_1) <;> clean_wf
  | (with_reducible apply ea_2) <;> clean_wf
  | (with_reducible apply ea_3) <;> clean_wf
  | with_reducible exact ea_nil
  | (with_reducible apply ea_cons) <;> clean_wf
  | with_reducible exact el_nil
  | (with_reducible apply ep_lt) <;> clean_wf
  | (with_reducible apply ep_le) <;> clean_wf
  | (with_reducible apply ep_gt) <;> clean_wf
  | (with_reducible apply ep_ge) <;> clean_wf
  | (with_reducible apply ep_eqi) <;> clean_wf
  | (with_reducible apply ep_nei) <;> clean_wf
  | (with_reducible apply ep_not) <;> clean_wf
  | ((with_reducible apply ep_and) <;> first | (intro _; clean_wf; done) | clean_wf)
  | ((with_reducible apply ep_or) <;> first | (intro _; clean_wf; done) | clean_wf)
  | (with_reducible apply et_t) <;> clean_wf
  | (with_reducible apply eo_is) <;> clean_wf
  | with_reducible exact eo_no
  | array_get_dec
  | bv_omega
  | rfl
  | skip)
local macro_rules | `(tactic| symm_saturate) => `(tactic| first
  | ((with_reducible apply q_set); (focus (clean_wf; done)))
  | ((with_reducible apply s_set); (focus (clean_wf; done)))
  | ((with_reducible apply q_aug (hx := rfl)); (focus (clean_wf; done)))
  | ((with_reducible apply s_aug (hx := rfl)); (focus (clean_wf; done)))
  | ((with_reducible apply q_augC (hx := rfl)); (focus (clean_wf; done)))
  | ((with_reducible apply s_augC (hx := rfl)); (focus (clean_wf; done))))
local macro_rules | `(tactic| subst_eqs) => `(tactic| repeat' (first
  | with_reducible apply w_c
  | ((with_reducible apply w_v'); (focus rfl))
  | with_reducible apply w_op
  | with_reducible apply w_cb
  | with_reducible apply w_cons
  | with_reducible apply w_nil
  | with_reducible apply r_add
  | with_reducible apply r_sub
  | ((with_reducible apply r_mul); (focus (bv_omega; done)))
  | ((with_reducible apply r_div); (focus (bv_omega; done)))
  | ((with_reducible apply r_mod); (focus (bv_omega; done)))
  | ((with_reducible apply r_pow); (focus (bv_omega; done)))
  | with_reducible apply r_lt
  | with_reducible apply r_le
  | with_reducible apply r_gt
  | with_reducible apply r_ge
  | with_reducible apply r_min
  | with_reducible apply r_max
  | with_reducible apply r_intB
  | ((with_reducible apply r_len); (focus (array_get_dec; done)))
  | with_reducible apply w_callW
  | with_reducible apply q_setW
  | with_reducible apply s_setW
  | with_reducible apply s_retW))

def zp (F : List (Nat × Nat)) : List (Int × Int) := F.map fun z => ((z.1 : Int), (z.2 : Int))
theorem zp_app (F : List (Nat × Nat)) (z : Nat × Nat) : zp (F ++ [z]) = zp F ++ [((z.1 : Int), (z.2 : Int))] := by simp [zp]
theorem zp_len (F : List (Nat × Nat)) : (zp F).length = F.length := by simp [zp]
theorem tpf_len {n m d : Nat} {F : List (Nat × Nat)} (t : MQ.Tpf n F m d) (h : n < 2 ^ 100) : F.length < 100 := by
  have h1 := MQ.pf_len (n := MQ.pprod F) ⟨rfl, t.up, t.pr⟩
  have h2 : MQ.pprod F ≤ n := by rw [← t.prod]; exact Nat.le_mul_of_pos_right _ t.m0
  exact (Nat.pow_lt_pow_iff_right (a := 2) (by omega)).mp (by omega)
/-! ### the parts -/
def sp_parts_of (K : PySem.W.Frag) : Sp := fun vs H Q _ => Nod H ∧ ∃ (n : Nat), vs = [.int (n : Int)] ∧ 0 < n ∧ n < 2 ^ 100 ∧ ∀ F, MQ.IsPf n F → NewP H (zp F) Q
/-- slots: number found prime times -/
abbrev n_parts_of : List Str := ["number", "found", "prime", "times"]
def t_parts_of (K : PySem.W.Frag) : TS := (sFg (tSeq (tAsg (tLst tNil) (gName 1))
  (tSeq (tAsg (tC (.int 2)) (gName 2))
  (tSeq (tWhile (tTest (tOp oLe (tOp oMul (tVar 2) (tVar 2)) (tVar 0))) (tSeq (tAsg (tC (.int 0)) (gName 3))
  (tSeq (tWhile (tTest (tOp rEq (tOp oMod (tVar 0) (tVar 2)) (tC (.int 0)))) (tSeq (tAug 0 (tVar 2) (ipC CDivW fun i j => i / j))
  (tAug 3 (tC (.int 1)) (ipI fun i j => i + j))))
  (tSeq (tIfS (tTest (tOp oGt (tVar 3) (tC (.int 0)))) (tDrop (tBM K "list" rAppend (tVar 1) (tCons (tTup (tCons (tVar 2) (tCons (tVar 3) tNil))) tNil))) tNext)
  (tAug 2 (tC (.int 1)) (ipI fun i j => i + j))))))
  (tSeq (tIfS (tTest (tOp oGt (tVar 0) (tC (.int 1)))) (tDrop (tBM K "list" rAppend (tVar 1) (tCons (tTup (tCons (tVar 0) (tCons (tC (.int 1)) tNil))) tNil))) tNext)
  (tRet (tVar 1)))))))
theorem r_parts_of {K : PySem.W.Frag} {vs : List V} {H : Hp} {Q : VK} {E : XK} (h : sp_parts_of K vs H Q E) : t_parts_of K { nx := fun _ H' => Q .non H', rt := Q } (start n_parts_of vs) H := by
  obtain ⟨nd, n, rfl, hn0, hn2, q⟩ := h
  refine fg_body (q_setL el_nil fun pf hpf => ?_)
  have o : Own H [(pf, [])] _ := Own.nil.new hpf
  refine q_set ev_c (q_whileP (fun m σ' H' => ∃ (F : List (Nat × Nat)) (l d : Nat) (y3 : Option V) (B' : Hp) (as : List Addr), σ' = [some (.int (l : Int)), some (.ref pf), some (.int (d : Int)), y3] ∧ MQ.Tpf n F l d ∧ 2 ≤ d ∧ d ≤ n + 2 ∧ m = n + 3 - d ∧ PrB H B' as (zp F) ∧ Own B' [(pf, as.map V.ref)] H') (n + 1) ⟨[], n, 2, none, H, [], rfl, .start hn0, by omega, by omega, by omega, .nil, o⟩ (fun m σ' H' hw => ?_))
  clear o
  obtain ⟨F, l, d, y3, B', as, rfl, t, hd2, hdn, rfl, c, o⟩ := hw
  have hln := t.mn
  have hFl := tpf_len t hn2
  have hal : as.length < 100 := by rw [c.len, zp_len]; exact hFl
  refine ⟨_, ep_le (ev_mul (i := (d : Int)) (j := (d : Int)) (ev_v 2) (ev_v 2) (cm (by omega))) (ev_v 0), fun hc => ?_, fun hc => ?_⟩
  · have hdd : d * d ≤ l := by
      have : ((d * d : Nat) : Int) ≤ (l : Int) := by rw [Int.natCast_mul]; exact hc
      omega
    have hdl : d ≤ l := Nat.le_trans (Nat.le_mul_of_pos_right d (by omega)) hdd
    refine q_set ev_c (q_whileP (fun m2 σ' H'' => ∃ (l2 k : Nat), σ' = [some (.int (l2 : Int)), some (.ref pf), some (.int (d : Int)), some (.int (k : Int))] ∧ H'' = H' ∧ l = l2 * d ^ k ∧ m2 = l2) l ⟨l, 0, rfl, rfl, by simp, rfl⟩ (fun m2 σ' H'' hw => ?_))
    obtain ⟨l2, k, rfl, rfl, hl2, hm2⟩ := hw
    have hl20 : 0 < l2 := by
      rcases Nat.eq_zero_or_pos l2 with z | z
      · subst z; simp at hl2; have := t.m0; omega
      · exact z
    have hl2l : l2 ≤ l := by rw [hl2]; exact Nat.le_mul_of_pos_right _ (Nat.pow_pos (by omega))
    refine ⟨_, ep_eqi (ev_mod (i := (l2 : Int)) (j := (d : Int)) (ev_v 0) (ev_v 2) (by omega)) ev_c, fun hc => ?_, fun hc => ?_⟩
    · have hm : l2 % d = 0 := by omega
      obtain ⟨u, hu⟩ := Nat.dvd_of_mod_eq_zero hm
      have hu2 : l2 / d = u := by rw [hu, Nat.mul_div_cancel_left u (by omega)]
      have hu0 : 0 < u := by
        rcases Nat.eq_zero_or_pos u with z | z
        · subst z; simp at hu; omega
        · exact z
      have hult : u < l2 := by
        have : 2 * u ≤ d * u := Nat.mul_le_mul_right u hd2
        omega
      refine q_augC (a := (l2 : Int)) (b := (d : Int)) (ev_v 2) (s_aug (a := (k : Int)) ev_c ⟨u, by omega, u, k + 1, ?_, rfl, ?_, rfl⟩) (cd (by omega))
      · rw [← Int.natCast_ediv, hu2]; rfl
      · rw [hl2, hu, Nat.pow_succ, Nat.mul_comm d u, Nat.mul_assoc, Nat.mul_comm d]
    · have hm : l2 % d ≠ 0 := by omega
      refine q_whenI (fun σ' H2 => σ' = [some (.int (l2 : Int)), some (.ref pf), some (.int (d : Int)), some (.int (k : Int))] ∧ ∃ (F : List (Nat × Nat)) (B' : Hp) (as : List Addr), MQ.Tpf n F l2 (d + 1) ∧ PrB H B' as (zp F) ∧ Own B' [(pf, as.map V.ref)] H2) (ep_gt (i := (k : Int)) (ev_v 3) ev_c) (fun hk N hN => ?_) (fun hk => ?_) fun σ' H2 hI => ?_
      · refine s_dropW (w_appR (ev_v 1) (o.sqi 0 rfl) (w_one (w_tupW (ea_2 (ev_v 2) (ev_v 3) _ ⟨by show 2 ≤ sizeLine; decide, fun t1 ht => ?_⟩))))
        have o2 := o.tupB (xs := pvals ((d : Int), (k : Int))) ht
        have htB := ex_none o.ex ht
        refine ⟨pf, as.map V.ref, _, rfl, rfl, o2.atI 0 rfl, by rw [List.length_map]; exact szl (by omega), hN _ _ ⟨rfl, F ++ [(d, k)], _, as ++ [t1], t.take hd2 (by omega) hl2 hm, by rw [zp_app]; exact c.snoc htB, ?_⟩⟩
        rw [show as.map V.ref ++ [V.ref t1] = (as ++ [t1]).map V.ref by simp]
        exact o2.mut 0 rfl
      · have hk0 : k = 0 := by omega
        subst hk0
        rw [Nat.pow_zero, Nat.mul_one] at hl2
        subst hl2
        exact ⟨rfl, F, B', as, t.skip hm, c, o⟩
      · obtain ⟨rfl, F, B', as, t, c, o⟩ := hI
        exact s_aug (a := (d : Int)) ev_c ⟨n + 3 - (d + 1), by omega, F, l2, d + 1, _, B', as, rfl, t, by omega, by omega, rfl, c, o⟩
  · have hdd : l < d * d := by
      have : ¬ ((d * d : Nat) : Int) ≤ (l : Int) := by rw [Int.natCast_mul]; exact hc
      omega
    have hl0 := t.m0
    refine q_whenP (ep_gt (i := (l : Int)) (ev_v 0) ev_c) (fun hl1 => ?_) fun hl1 => ?_
    · refine s_dropW (w_appR (ev_v 1) (o.sqi 0 rfl) (w_one (w_tupW (ea_2 (ev_v 0) ev_c _ ⟨by show 2 ≤ sizeLine; decide, fun t1 ht => ?_⟩))))
      have o2 := o.tupB (xs := pvals ((l : Int), 1)) ht
      have htB := ex_none o.ex ht
      refine ⟨pf, as.map V.ref, _, rfl, rfl, o2.atI 0 rfl, by rw [List.length_map]; exact szl (by omega), ?_⟩
      rw [show as.map V.ref ++ [V.ref t1] = (as ++ [t1]).map V.ref by simp]
      have c2 := c.snoc (q := ((l : Int), 1)) htB
      have ef : zp F ++ [((l : Int), 1)] = zp (F ++ [(l, 1)]) := by rw [zp_app]; rfl
      rw [ef] at c2
      replace o2 := o2.mut (ys := (as ++ [t1]).map V.ref) 0 rfl
      exact s_ret (ev_v 1) (c2.ret o2 0 rfl (q _ (t.last (by omega) hdd)))
    · have : l = 1 := by omega
      subst this
      exact s_ret (ev_v 1) (c.ret o 0 rfl (q _ t.one))
/-! ### the greatest part -/
end Px
set_option Elab.async false
set_option linter.all false
set_option maxRecDepth 100000
set_option maxHeartbeats 4000000
namespace Px
open PySem L2 MA
local macro_rules | `(tactic| bv_omega) => `(tactic| first | assumption | omega | exact cm (by omega) | exact cd (by omega) | exact cp (by omega) | exact trivial)
local macro_rules | `(tactic| array_get_dec) => `(tactic| first
  | assumption
  | exact sq_up
  | exact Own.sqi (by assumption) 0 (by rfl)
  | exact Own.sqi (by assumption) 1 (by rfl)
  | exact Own.sqi (by assumption) 2 (by rfl)
  | exact Own.sqi (by assumption) 3 (by rfl)
  | exact Own.sqi (by assumption) 4 (by rfl)
  | exact Own.sq (by assumption) (by assumption)
  | exact sq_new (by assumption) (by assumption))
local macro_rules | `(tactic| clean_wf) => `(tactic| first
  | with_reducible exact ev_c
  | (with_reducible apply ev_v') <;> rfl
  | (with_reducible apply ev_add) <;> clean_wf
  | (with_reducible apply ev_sub) <;> clean_wf
  | (with_reducible apply ev_mul) <;> clean_wf
  | (with_reducible apply ev_mod) <;> clean_wf
  | (with_reducible apply ev_div) <;> clean_wf
  | (with_reducible apply ev_pow) <;> clean_wf
  | (with_reducible apply ev_neg) <;> clean_wf
  | (with_reducible apply ev_lt) <;> clean_wf
  | (with_reducible apply ev_le) <;> clean_wf
  | (with_reducible apply ev_gt) <;> clean_wf
  | (with_reducible apply ev_ge) <;> clean_wf
  | (with_reducible apply ev_eqi) <;> clean_wf
  | (with_reducible apply ev_nei) <;> clean_wf
  | (with_reducible apply ev_len) <;> clean_wf
  | (with_reducible apply ev_ixL) <;> clean_wf
  | (with_reducible apply ev_min) <;> clean_wf
  | (with_reducible apply ev_max) <;> clean_wf
  | (with_reducible apply ev_abs) <;> clean_wf
  | (with_reducible apply ev_intB) <;> clean_wf
  | (with_reducible apply ea_1) <;> clean_wf
  | (with_reducible apply ea_2) <;> clean_wf
  | (with_reducible apply ea_3) <;> clean_wf
  | with_reducible exact ea_nil
  | (with_reducible apply ea_cons) <;> clean_wf
  | with_reducible exact el_nil
  | (with_reducible apply ep_lt) <;> clean_wf
  | (with_reducible apply ep_le) <;> clean_wf
  | (with_reducible apply ep_gt) <;> clean_wf
  | (with_reducible apply ep_ge) <;> clean_wf
  | (with_reducible apply ep_eqi) <;> clean_wf
  | (with_reducible apply ep_nei) <;> clean_wf
  | (with_reducible apply ep_not) <;> clean_wf
  | ((with_reducible apply ep_and) <;> first | (intro _; clean_wf; done) | clean_wf)
  | ((with_reducible apply ep_or) <;> first | (intro _; clean_wf; done) | clean_wf)
  | (with_reducible apply et_t) <;> clean_wf
  | (with_reducible apply eo_is) <;> clean_wf
  | with_reducible exact eo_no
  | array_get_dec
  | bv_omega
  | rfl
  | skip)
local macro_rules | `(tactic| symm_saturate) => `(tactic| first
  | ((with_reducible apply q_set); (focus (clean_wf; done)))
  | ((with_reducible apply s_set); (focus (clean_wf; done)))
  | ((with_reducible apply q_aug (hx := rfl)); (focus (clean_wf; done)))
  | ((with_reducible apply s_aug (hx := rfl)); (focus (clean_wf; done)))
  | ((with_reducible apply q_augC (hx := rfl)); (focus (clean_wf; done)))
  | ((with_reducible apply s_augC (hx := rfl)); (focus (clean_wf; done))))
local macro_rules | `(tactic| subst_eqs) => `(tactic| repeat' (first
  | with_reducible apply w_c
  | ((with_reducible apply w_v'); (focus rfl))
  | with_reducible apply w_op
  | with_reducible apply w_cb
  | with_reducible apply w_cons
  | with_reducible apply w_nil
  | with_reducible apply r_add
  | with_reducible apply r_sub
  | ((with_reducible apply r_mul); (focus (bv_omega; done)))
  | ((with_reducible apply r_div); (focus (bv_omega; done)))
  | ((with_reducible apply r_mod); (focus (bv_omega; done)))
  | ((with_reducible apply r_pow); (focus (bv_omega; done)))
  | with_reducible apply r_lt
  | with_reducible apply r_le
  | with_reducible apply r_gt
  | with_reducible apply r_ge
  | with_reducible apply r_min
  | with_reducible apply r_max
  | with_reducible apply r_intB
  | ((with_reducible apply r_len); (focus (array_get_dec; done)))
  | with_reducible apply w_callW
  | with_reducible apply q_setW
  | with_reducible apply s_setW
  | with_reducible apply s_retW))

theorem at_lastG {xs : List V} {x : V} (h : xs.getLast? = some x) : atI xs (-1) = some x := by
  obtain ⟨ys, rfl⟩ := List.getLast?_eq_some_iff.mp h
  exact atI_last _ _
def sp_greatest_part (K : PySem.W.Frag) : Sp := fun vs H Q _ => Nod H ∧ ∃ (n : Nat), vs = [.int (n : Int)] ∧ 0 < n ∧ n < 2 ^ 100 ∧ Q (.int (MQ.gp n : Int)) H
/-- slots: number -/
abbrev n_greatest_part : List Str := ["number"]
def t_greatest_part (K : PySem.W.Frag) : TS := (sFg (tSeq (tIfS (tTest (tOp rEq (tVar 0) (tC (.int 1)))) (tRet (tC (.int 1))) tNext)
  (tRet (tOp (rIxT K) (tOp (rIxL K) (tCall (sp_parts_of K) [] E0 (tCons (tVar 0) tNil)) (tUn uNeg (tC (.int 1)))) (tC (.int 0))))))
theorem r_greatest_part {K : PySem.W.Frag} {vs : List V} {H : Hp} {Q : VK} {E : XK} (h : sp_greatest_part K vs H Q E) : t_greatest_part K { nx := fun _ H' => Q .non H', rt := Q } (start n_greatest_part vs) H := by
  obtain ⟨nd, n, rfl, hn0, hn2, q⟩ := h
  refine fg_body (q_whenP (ep_eqi (i := (n : Int)) (ev_v 0) ev_c) (fun hc => ?_) fun hc => ?_)
  · have : n = 1 := by omega
    subst this
    rw [MQ.gp_one] at q
    exact s_ret ev_c ⟨H, fg_same ex_refl, q⟩
  · refine s_retW (w_op (w_op (w_callW (w_one (w_v 0 ⟨nd, n, rfl, hn0, hn2, fun F hF p as H1 hp has e1 n1 pr => ?_⟩)))))
    have hne : F ≠ [] := fun z => by have := hF.nil_iff.mp z; omega
    obtain ⟨z, hz⟩ : ∃ z, F.getLast? = some z := ⟨_, List.getLast?_eq_some_getLast hne⟩
    obtain ⟨G, eF⟩ := List.getLast?_eq_some_iff.mp hz
    have hgp := hF.gp hz
    have hz2 : (zp F)[G.length]? = some ((z.1 : Int), (z.2 : Int)) := by
      unfold zp
      rw [List.getElem?_map, eF, List.getElem?_append_right (Nat.le_refl _)]
      simp
    have hlen : as.length = G.length + 1 := by rw [pr.len, zp_len, eF]; simp
    obtain ⟨b, hb⟩ : ∃ b, as[G.length]? = some b := ⟨_, List.getElem?_eq_getElem (by omega)⟩
    have hbt := pr.tup _ _ _ hb hz2
    have hbl : (as.map V.ref).getLast? = some (.ref b) := by
      rw [List.getLast?_eq_getElem?, List.length_map, List.getElem?_map, hlen]
      rw [show G.length + 1 - 1 = G.length by omega, hb]
      rfl
    refine w_ev (ev_neg ev_c) (r_ix (sq_at pr.lst) (at_lastG hbl) (w_c ⟨b, pvals ((z.1 : Int), (z.2 : Int)), 0, .int (z.1 : Int), rfl, rfl, st_at hbt, rfl, H, fg_same e1, ?_⟩))
    rw [hgp]
    exact q
/-! ### the least greatest part -/
theorem filt_leG : ∀ {l : List (Int × Int)} {j : Nat} {z : Int × Int}, l.Pairwise (fun x y => x.1 < y.1) → l[j]? = some z → l.filter (fun w => decide (w.1 ≤ z.1)) = l.take (j + 1) ∧ l.filter (fun w => decide (w.1 ≤ z.1 - 1)) = l.take j
  | [], j, z, _, h => by simp at h
  | w :: r, 0, z, hp, h => by
    cases h
    obtain ⟨h1, h2⟩ := List.pairwise_cons.mp hp
    have e1 : r.filter (fun x => decide (x.1 ≤ w.1)) = [] := List.filter_eq_nil_iff.mpr fun x hx => by have := h1 x hx; simp; omega
    have e2 : r.filter (fun x => decide (x.1 ≤ w.1 - 1)) = [] := List.filter_eq_nil_iff.mpr fun x hx => by have := h1 x hx; simp; omega
    exact ⟨by rw [List.filter_cons_of_pos (by simp), e1]; rfl, by rw [List.filter_cons_of_neg (by simp; omega), e2]; rfl⟩
  | w :: r, j + 1, z, hp, h => by
    obtain ⟨h1, h2⟩ := List.pairwise_cons.mp hp
    have hz : r[j]? = some z := by simpa using h
    obtain ⟨i1, i2⟩ := filt_leG h2 hz
    have hlt := h1 z (List.mem_of_getElem? hz)
    exact ⟨by rw [List.filter_cons_of_pos (by simp; omega), i1]; rfl, by rw [List.filter_cons_of_pos (by simp; omega), i2]; rfl⟩
theorem mw_sum (b : Nat) (m : Int) : (((gcs b).filter fun z => decide (z.1 ≤ m)).map (·.2)).sum = (mw b m : Int) := MQ.cts_sum (B := b) (L := MQ.gl b) (fun x hx => gl_le hx) m
theorem gcs_total (b : Nat) : ((gcs b).map (·.2)).sum = (b : Int) := by
  have h := mw_sum b (b : Int)
  have e1 : (gcs b).filter (fun z => decide (z.1 ≤ (b : Int))) = gcs b := List.filter_eq_self.mpr fun z hz => by
    obtain ⟨g, hg, rfl⟩ := (MQ.cts_mem (fun x hx => gl_le hx)).mp hz
    have := gl_le hg
    simp; omega
  have e2 : mw b (b : Int) = b := by
    unfold mw
    rw [List.filter_eq_self.mpr fun x hx => by have := gl_le hx; simp; omega]
    exact MQ.gl_len b
  rw [e1, e2] at h
  exact h
theorem sum_take {qs : List (Int × Int)} {j : Nat} {z : Int × Int} (h : qs[j]? = some z) : ((qs.take (j + 1)).map (·.2)).sum = ((qs.take j).map (·.2)).sum + z.2 := by
  rw [List.take_add_one, h]
  simp
def sp_least_bound (K : PySem.W.Frag) : Sp := fun vs H Q _ => Nod H ∧ ∃ (b m : Nat), vs = [.int (b : Int), .int (m : Int)] ∧ 1 ≤ m ∧ m ≤ b ∧ b ≤ 20000 ∧ ∀ g : Nat, 1 ≤ g → g ≤ b → m ≤ mw b (g : Int) → mw b ((g : Int) - 1) < m → Q (.int (g : Int)) H
/-- slots: bound many left part count -/
abbrev n_least_bound : List Str := ["bound", "many", "left", "part", "count"]
def t_least_bound (K : PySem.W.Frag) : TS := (sFg (tSeq (tIfS (tOr (tNot (tB (tCB (rIsi K) (tCons (tVar 1) (tCons (tC (.ty "int")) tNil))))) (tOr (tB (tCB (rIsi K) (tCons (tVar 1) (tCons (tC (.ty "bool")) tNil)))) (tNot (tTest (tChain oLe oLe (tC (.int 1)) (tVar 1) (tVar 0)))))) tNever tNext)
  (tSeq (tAsg (tVar 1) (gName 2))
  (tSeq (tFor (iList K (tCall (sp_by_greatest K) [] E0 (tCons (tVar 0) tNil))) (gTup K 2 (gCons (gName 3) (gCons (gName 4) gNil))) (tSeq (tAug 2 (tVar 4) (ipI fun i j => i - j))
  (tIfS (tTest (tOp oLe (tVar 2) (tC (.int 0)))) tBreak tNext)))
  (tRet (tVar 3))))))
theorem r_least_bound {K : PySem.W.Frag} {vs : List V} {H : Hp} {Q : VK} {E : XK} (h : sp_least_bound K vs H Q E) : t_least_bound K { nx := fun _ H' => Q .non H', rt := Q } (start n_least_bound vs) H := by
  obtain ⟨nd, b, m, rfl, hm1, hmb, hb, q⟩ := h
  refine fg_body (q_when (b := false) (et_eq (et_or (a := false) (et_eq (et_not (et_b (ev_isi (ev_v 1) ev_c (.ty "int") (.base (.int (m : Int))) (kit_ty (r := true) (by decide +kernel))))) rfl) fun _ => et_or (a := false) (b := false) (et_b (ev_isi (ev_v 1) ev_c (.ty "bool") (.base (.int (m : Int))) (kit_ty (r := false) (by decide +kernel)))) fun _ => et_eq (et_not (et_t (ev_chain (a := decide ((1 : Int) ≤ (m : Int))) (b := decide ((m : Int) ≤ (b : Int))) ev_c (ev_v 1) rv_0 (fun _ => ev_v 0) fun _ => rv_0))) (by rw [decide_eq_true (by omega), decide_eq_true (by omega)]; rfl)) rfl) (fun z => nomatch z) fun _ => ?_)
  refine q_set (ev_v 1) (q_seq (w_forL (w_callW (w_one (w_v 0 ⟨nd, b, rfl, by omega, by omega, fun p as H1 hp has e1 n1 pr => ⟨p, rfl, ⟨_, sq_at pr.lst⟩, ?_⟩⟩)))))
  have hpair := MQ.cts_pair b (MQ.gl b)
  have htot := gcs_total b
  refine lp_list (xs := as.map V.ref) (fun j σ' H' => ∃ y3 y4 : Option V, σ' = [some (.int (b : Int)), some (.int (m : Int)), some (.int ((m : Int) - (((gcs b).take j).map (·.2)).sum)), y3, y4] ∧ H' = H1 ∧ (((gcs b).take j).map (·.2)).sum < (m : Int)) ⟨none, none, by simp; rfl, rfl, by simp; omega⟩ (fun j σ' H' _ hv => ?_) (fun j v σ' H' hj hv => ?_) fun σ' H' hv => ?_
  · obtain ⟨_, _, _, rfl, _⟩ := hv
    exact sq_at pr.lst
  · obtain ⟨y3, y4, rfl, rfl, hS⟩ := hv
    obtain ⟨a, z, _, rfl, hz, ha⟩ := pr.get hj
    have est := sum_take hz
    obtain ⟨f1, f2⟩ := filt_leG hpair hz
    have g1 := mw_sum b z.1
    have g2 := mw_sum b (z.1 - 1)
    have f1' : (gcs b).filter (fun w => decide (w.1 ≤ z.1)) = (gcs b).take (j + 1) := f1
    have f2' : (gcs b).filter (fun w => decide (w.1 ≤ z.1 - 1)) = (gcs b).take j := f2
    rw [f1'] at g1
    rw [f2'] at g2
    obtain ⟨g, hg, ez⟩ := (MQ.cts_mem (fun x hx => gl_le hx)).mp (List.mem_of_getElem? hz)
    have hgm := MQ.gl_mem hg
    have ez1 : z.1 = (g : Int) := by rw [ez]
    refine g_pair ha (q_aug (a := (m : Int) - (((gcs b).take j).map (·.2)).sum) (ev_v 4) ?_)
    refine s_whenP (ep_le (i := (m : Int) - (((gcs b).take j).map (·.2)).sum - z.2) (ev_v 2) ev_c) (fun hc => ?_) fun hc => ?_
    · refine s_ret (v := .int z.1) (ev_v 3) ⟨H, fg_same e1, ?_⟩
      rw [ez1] at g1 g2 ⊢
      exact q g hgm.1 hgm.2 (by omega) (by omega)
    · refine ⟨some (.int z.1), some (.int z.2), ?_, rfl, by omega⟩
      rw [est, show (m : Int) - ((((gcs b).take j).map (·.2)).sum + z.2) = (m : Int) - (((gcs b).take j).map (·.2)).sum - z.2 by omega]
      rfl
  · obtain ⟨y3, y4, rfl, rfl, hS⟩ := hv
    rw [List.length_map, pr.len, List.take_length, htot] at hS
    omega
abbrev rDictP (K : PySem.W.Frag) : List V → Hp → VK → Prop := fun xs H Q => ∃ (a : Addr) (ps : List Addr) (kvs : List (Key × V)), xs = [.ref a] ∧ SqL K H a (ps.map V.ref) ∧ Paired (fun p kv => SqT K H p [kV kv.1, kv.2]) ps kvs ∧ ∀ p, H p = none → Q (.ref p) (upd H p (.dK (mergeK [] kvs)))
end Px
set_option Elab.async false
set_option linter.all false
set_option maxRecDepth 100000
set_option maxHeartbeats 4000000
namespace Px
open PySem L2 MA
local macro_rules | `(tactic| bv_omega) => `(tactic| first | assumption | omega | exact cm (by omega) | exact cd (by omega) | exact cp (by omega) | exact trivial)
local macro_rules | `(tactic| array_get_dec) => `(tactic| first
  | assumption
  | exact sq_up
  | exact Own.sqi (by assumption) 0 (by rfl)
  | exact Own.sqi (by assumption) 1 (by rfl)
  | exact Own.sqi (by assumption) 2 (by rfl)
  | exact Own.sqi (by assumption) 3 (by rfl)
  | exact Own.sqi (by assumption) 4 (by rfl)
  | exact Own.sq (by assumption) (by assumption)
  | exact sq_new (by assumption) (by assumption))
local macro_rules | `(tactic| clean_wf) => `(tactic| first
  | with_reducible exact ev_c
  | (with_reducible apply ev_v') <;> rfl
  | (with_reducible apply ev_add) <;> clean_wf
  | (with_reducible apply ev_sub) <;> clean_wf
  | (with_reducible apply ev_mul) <;> clean_wf
  | (with_reducible apply ev_mod) <;> clean_wf
  | (with_reducible apply ev_div) <;> clean_wf
  | (with_reducible apply ev_pow) <;> clean_wf
  | (with_reducible apply ev_neg) <;> clean_wf
  | (with_reducible apply ev_lt) <;> clean_wf
  | (with_reducible apply ev_le) <;> clean_wf
  | (with_reducible apply ev_gt) <;> clean_wf
  | (with_reducible apply ev_ge) <;> clean_wf
  | (with_reducible apply ev_eqi) <;> clean_wf
  | (with_reducible apply ev_nei) <;> clean_wf
  | (with_reducible apply ev_len) <;> clean_wf
  | (with_reducible apply ev_ixL) <;> clean_wf
  | (with_reducible apply ev_min) <;> clean_wf
  | (with_reducible apply ev_max) <;> clean_wf
  | (with_reducible apply ev_abs) <;> clean_wf
  | (with_reducible apply ev_intB) <;> clean_wf
  | (with_reducible apply ea_1) <;> clean_wf
  | (with_reducible apply ea_2) <;> clean_wf
  | (with_reducible apply ea_3) <;> clean_wf
  | with_reducible exact ea_nil
  | (with_reducible apply ea_cons) <;> clean_wf
  | with_reducible exact el_nil
  | (with_reducible apply ep_lt) <;> clean_wf
  | (with_reducible apply ep_le) <;> clean_wf
  | (with_reducible apply ep_gt) <;> clean_wf
  | (with_reducible apply ep_ge) <;> clean_wf
  | (with_reducible apply ep_eqi) <;> clean_wf
  | (with_reducible apply ep_nei) <;> clean_wf
  | (with_reducible apply ep_not) <;> clean_wf
  | ((with_reducible apply ep_and) <;> first | (intro _; clean_wf; done) | clean_wf)
  | ((with_reducible apply ep_or) <;> first | (intro _; clean_wf; done) | clean_wf)
  | (with_reducible apply et_t) <;> clean_wf
  | (with_reducible apply eo_is) <;> clean_wf
  | with_reducible exact eo_no
  | array_get_dec
  | bv_omega
  | rfl
  | skip)
local macro_rules | `(tactic| symm_saturate) => `(tactic| first
  | ((with_reducible apply q_set); (focus (clean_wf; done)))
  | ((with_reducible apply s_set); (focus (clean_wf; done)))
  | ((with_reducible apply q_aug (hx := rfl)); (focus (clean_wf; done)))
  | ((with_reducible apply s_aug (hx := rfl)); (focus (clean_wf; done)))
  | ((with_reducible apply q_augC (hx := rfl)); (focus (clean_wf; done)))
  | ((with_reducible apply s_augC (hx := rfl)); (focus (clean_wf; done))))
local macro_rules | `(tactic| subst_eqs) => `(tactic| repeat' (first
  | with_reducible apply w_c
  | ((with_reducible apply w_v'); (focus rfl))
  | with_reducible apply w_op
  | with_reducible apply w_cb
  | with_reducible apply w_cons
  | with_reducible apply w_nil
  | with_reducible apply r_add
  | with_reducible apply r_sub
  | ((with_reducible apply r_mul); (focus (bv_omega; done)))
  | ((with_reducible apply r_div); (focus (bv_omega; done)))
  | ((with_reducible apply r_mod); (focus (bv_omega; done)))
  | ((with_reducible apply r_pow); (focus (bv_omega; done)))
  | with_reducible apply r_lt
  | with_reducible apply r_le
  | with_reducible apply r_gt
  | with_reducible apply r_ge
  | with_reducible apply r_min
  | with_reducible apply r_max
  | with_reducible apply r_intB
  | ((with_reducible apply r_len); (focus (array_get_dec; done)))
  | with_reducible apply w_callW
  | with_reducible apply q_setW
  | with_reducible apply s_setW
  | with_reducible apply s_retW))

def sp_law_whole (K : PySem.W.Frag) : Sp := fun vs H Q _ => Nod H ∧ ∃ i : Int, vs = [.int i, .int i] ∧ Q (.bl true) H
/-- slots: found due -/
abbrev n_law_whole : List Str := ["found", "due"]
def t_law_whole (K : PySem.W.Frag) : TS := (sFg (tRet (tAndV (tCB (rIsi K) (tCons (tVar 0) (tCons (tC (.ty "int")) tNil))) (tAndV (tNotV (tCB (rIsi K) (tCons (tVar 0) (tCons (tC (.ty "bool")) tNil)))) (tOp rEq (tVar 0) (tVar 1))))))
theorem r_law_whole {K : PySem.W.Frag} {vs : List V} {H : Hp} {Q : VK} {E : XK} (h : sp_law_whole K vs H Q E) : t_law_whole K { nx := fun _ H' => Q .non H', rt := Q } (start n_law_whole vs) H := by
  obtain ⟨nd, i, rfl, q⟩ := h
  exact fg_body (s_ret (v := .bl true) (ev_eq (ev_and (a := true) (b := true) (ev_isi (ev_v 0) ev_c (.ty "int") (.base (.int i)) (kit_ty (r := true) (by decide +kernel))) fun _ => ev_eq (ev_and (a := true) (b := true) (ev_eq (ev_not (ev_isi (ev_v 0) ev_c (.ty "bool") (.base (.int i)) (kit_ty (r := false) (by decide +kernel)))) rfl) fun _ => ev_eq (ev_eqi (ev_v 0) (ev_v 1)) (by simp)) rfl) rfl) ⟨H, fg_same ex_refl, q⟩)
def sp_law_parts (K : PySem.W.Frag) : Sp := fun vs H Q _ => Nod H ∧ ∃ (b : Nat), vs = [.int (b : Int)] ∧ 1 ≤ b ∧ b ≤ 20000 ∧ ∀ (p : Addr) (l : List Nat), H p = none → l.Perm (MQ.gl b) → l.Pairwise (· ≤ ·) → Q (.ref p) (upd H p (.lst (zv l)))
/-- slots: bound found number times -/
abbrev n_law_parts : List Str := ["bound", "found", "number", "times"]
def t_law_parts (K : PySem.W.Frag) : TS := (sFg (tSeq (tAsg (tOp rRep (tLst (tCons (tC (.int 1)) tNil)) (tOp oAdd (tVar 0) (tC (.int 1)))) (gName 1))
  (tSeq (tFor (iRng2 (tCons (tC (.int 2)) (tCons (tOp oAdd (tVar 0) (tC (.int 1))) tNil))) (gName 2) (tIfS (tTest (tOp rEq (tOp (rIxL K) (tVar 1) (tVar 2)) (tC (.int 1)))) (tFor (iRng2 (tCons (tC (.int 1)) (tCons (tOp oAdd (tOp oDiv (tVar 0) (tVar 2)) (tC (.int 1))) tNil))) (gName 3) (tAsg (tVar 2) (gSub (tVar 1) (tOp oMul (tVar 3) (tVar 2)) rSetL))) tNext))
  (tRet (tCB (rSortedI K) (tCons (tSl (rSlL K) (tVar 1) (tPart (tC (.int 1))) tNoPart) tNil))))))
theorem r_law_parts {K : PySem.W.Frag} {vs : List V} {H : Hp} {Q : VK} {E : XK} (h : sp_law_parts K vs H Q E) : t_law_parts K { nx := fun _ H' => Q .non H', rt := Q } (start n_law_parts vs) H := by
  obtain ⟨nd, b, rfl, hb1, hb2, q⟩ := h
  refine fg_body (q_setW (el_rep1 (k := b + 1) (fun _ => ev_c) (fun _ => ev_eq (ev_add (i := (b : Int)) (ev_v 0) ev_c) rfl) (by omega) fun r p hr hp => ?_))
  rw [rep_fl]
  have o : Own H [(p, zv (MQ.fl b (MQ.sv 1)))] _ := (Own.nil.tmp (xs := [.int 1]) hr).new hp
  refine q_forR2 (lo := 2) (k := (b : Int) + 1) (ea_2 ev_c (ev_add (i := (b : Int)) (ev_v 0) ev_c)) (by omega) (fun i σ' H' => ∃ y2 y3 : Option V, σ' = [some (.int (b : Int)), some (.ref p), y2, y3] ∧ Own H [(p, zv (MQ.fl b (MQ.sv (i + 1))))] H' ) ⟨none, none, rfl, o⟩ (fun i σ' H' hi hv => ?_) fun σ' H' hv => ?_
  · clear o
    obtain ⟨y2, y3, rfl, o⟩ := hv
    obtain ⟨n, hn⟩ : ∃ n : Nat, n = i + 2 := ⟨_, rfl⟩
    have hnb : n ≤ b := by omega
    have en : (2 : Int) + (i : Int) = (n : Int) := by omega
    rw [en]
    have hget : (MQ.fl b (MQ.sv (i + 1)))[n]? = some (MQ.sv (i + 1) n) := MQ.fl_get hnb
    have eat : atI (zv (MQ.fl b (MQ.sv (i + 1)))) (n : Int) = some (.int (MQ.sv (i + 1) n : Int)) := at_of rfl (zv_get hget)
    have htest := MQ.sv_test (k := i + 1) (by omega)
    refine s_whenP (ep_eqi (i := (MQ.sv (i + 1) n : Int)) (j := 1) (ev_ixL (ev_v 1) (ev_v 2) (o.sqi 0 rfl) eat) ev_c) (fun hc => ?_) fun hc => ?_
    · have hpr : MQ.Pr (i + 1 + 1) := htest.mp (by rw [show i + 1 + 1 = n by omega]; omega)
      have hn0 : 0 < n := by omega
      have hm : b < n * (b / n + 1) := by rw [Nat.mul_add, Nat.mul_one]; exact Nat.lt_mul_div_succ b hn0
      have hmle : n * (b / n) ≤ b := Nat.mul_div_le b n
      have hd2 : b / n ≤ b := Nat.div_le_self b n
      have eq1 : (b : Int) / (n : Int) = ((b / n : Nat) : Int) := (Int.natCast_ediv b n).symm
      generalize b / n = zz at hm hmle hd2 eq1
      refine s_forR2 (lo := 1) (k := ((zz : Nat) : Int) + 1) (ea_2 ev_c (ev_add (i := ((zz : Nat) : Int)) (ev_eq (ev_div (i := (b : Int)) (j := (n : Int)) (ev_v 0) (ev_v 2) (cd (by omega))) (by rw [eq1])) ev_c)) (by omega) (fun j σ' H' => ∃ y3 : Option V, σ' = [some (.int (b : Int)), some (.ref p), some (.int (n : Int)), y3] ∧ Own H [(p, zv (MQ.fl b (MQ.sw n j (MQ.sv (i + 1)))))] H') ⟨y3, rfl, by rw [MQ.sw_zero]; exact o⟩ (fun j σ' H' hj hv => ?_) fun σ' H' hv => ?_
      · obtain ⟨y3, rfl, o⟩ := hv
        have hjb : n * (j + 1) ≤ b := Nat.le_trans (Nat.mul_le_mul_left n (by omega)) hmle
        have eix : ((1 : Int) + (j : Int)) * (n : Int) = ((n * (j + 1) : Nat) : Int) := by
          rw [Nat.mul_comm n (j + 1), Int.natCast_mul]
          congr 1
          omega
        refine s_sub (j := n * (j + 1)) (o.atI 0 rfl) (ixn (by rw [zv_len, MQ.fl_len]; omega)) (ev_v 2) (ev_v 1) (ev_eq (ev_mul (i := 1 + (j : Int)) (j := (n : Int)) (ev_v 3) (ev_v 2) (cm (by omega))) (by rw [eix])) ⟨_, rfl, ?_⟩
        rw [zv_set, MQ.fl_set hjb, MQ.sw_succ hn0]
        exact o.mut 0 rfl
      · obtain ⟨y3, rfl, o⟩ := hv
        refine ⟨_, _, rfl, ?_⟩
        rw [show (((zz : Nat) : Int) + 1 - 1).toNat = zz by omega] at o
        have e1 : MQ.fl b (MQ.sw n (zz) (MQ.sv (i + 1))) = MQ.fl b (MQ.sv (i + 1 + 1)) := MQ.fl_congr fun m hmb => by
          rw [show n = i + 1 + 1 by omega]
          rw [show n = i + 1 + 1 by omega] at hm
          exact MQ.sw_end hpr hm hmb
        rw [e1] at o
        exact o
    · have hpr : ¬ MQ.Pr (i + 1 + 1) := fun z => hc (by have := htest.mpr z; rw [show i + 1 + 1 = n by omega] at this; omega)
      refine ⟨_, _, rfl, ?_⟩
      rw [MQ.sv_skip hpr]
      exact o
  · obtain ⟨y2, y3, rfl, o⟩ := hv
    rw [show ((b : Int) + 1 - 2).toNat + 1 = b by omega, MQ.sv_done] at o
    refine s_retW (w_cb (w_one (w_evL (el_sl (ev_v 1) (eo_is (ev_eq (y := .int ((1 : Nat) : Int)) ev_c rfl)) eo_no (o.sqi 0 rfl)) fun p1 hp1 => ?_)))
    rw [cut_fromN]
    replace o : Own H [(p1, zv (MQ.gl b)), (p, zv (1 :: MQ.gl b))] _ := o.new (xs := zv ((1 :: MQ.gl b).drop 1)) hp1
    refine r_sortN (o.sqi 0 rfl) fun l p2 hl hle hp2 => ?_
    replace o := o.new (xs := zv l) hp2
    exact ⟨_, o.ret 0 rfl, q p2 l (o.offI 0 rfl) hl hle⟩
/-! ### the law -/
theorem pr_of {p : Nat} (h2 : 2 ≤ p) (h : ∀ d, d < p + 1 → p % d = 0 → d = 1 ∨ d = p) : MQ.Pr p := ⟨h2, fun d hd => h d (by have := Nat.le_of_dvd (by omega) hd; omega) (Nat.mod_eq_zero_of_dvd hd)⟩
theorem gl10 : MQ.gl 10 = [1, 2, 3, 2, 5, 3, 7, 2, 3, 5] := by
  have p2 : MQ.Pr 2 := pr_of (by omega) (by decide)
  have p3 : MQ.Pr 3 := pr_of (by omega) (by decide)
  have p5 : MQ.Pr 5 := pr_of (by omega) (by decide)
  have p7 : MQ.Pr 7 := pr_of (by omega) (by decide)
  have g2 := MQ.gp_prime p2
  have g3 := MQ.gp_prime p3
  have g5 := MQ.gp_prime p5
  have g7 := MQ.gp_prime p7
  have g4 : MQ.gp 4 = 2 := by have := MQ.gp_mul p2 (n := 2) (by omega); rw [g2] at this; exact this
  have g6 : MQ.gp 6 = 3 := by have := MQ.gp_mul p2 (n := 3) (by omega); rw [g3] at this; exact this
  have g8 : MQ.gp 8 = 2 := by have := MQ.gp_mul p2 (n := 4) (by omega); rw [g4] at this; exact this
  have g9 : MQ.gp 9 = 3 := by have := MQ.gp_mul p3 (n := 3) (by omega); rw [g3] at this; exact this
  have g10 : MQ.gp 10 = 5 := by have := MQ.gp_mul p2 (n := 5) (by omega); rw [g5] at this; exact this
  show [MQ.gp 1, MQ.gp 2, MQ.gp 3, MQ.gp 4, MQ.gp 5, MQ.gp 6, MQ.gp 7, MQ.gp 8, MQ.gp 9, MQ.gp 10] = _
  rw [MQ.gp_one, g2, g3, g4, g5, g6, g7, g8, g9, g10]
theorem w_lcTW {K : PySem.W.Frag} {σ : L2.St} {H : Hp} {tl te : TE} {tt : TT} {g : TG} {vs : List Nat} {Q : VK} (h : tl σ H fun x H1 => ∃ a, x = .ref a ∧ (∃ xs, SqT K H1 a xs) ∧ LcAt (Itt K a) g tt te vs σ Q H1) : tLc (iTup K tl) g tt te vs σ H Q := h
theorem lcat_tup {K : PySem.W.Frag} {σ : L2.St} {te : TE} {t : TT} {Q : VK} {a : Addr} {xs : List V} {vs : List Nat} {n : Nat} {H1 : Hp} (Pv : Addr → Nat → Hp → Prop) (h0 : ∀ D, H1 D = none → Pv D 0 (upd H1 D (.lst []))) (hl : ∀ D i H', H1 D = none → Pv D i H' → SqT K H' a xs) (hw : ∀ x, wipe ((wipe σ vs).set n (some x)) vs = wipe σ vs)
    (hs : ∀ D (i : Nat) x H', H1 D = none → xs[i]? = some x → Pv D i H' → t ((wipe σ vs).set n (some x)) H' fun b H3 => if b = true then te ((wipe σ vs).set n (some x)) H3 fun y H4 => ∃ acc, H4 D = some (.lst acc) ∧ acc.length < sizeLine ∧ Pv D (i + 1) (upd H4 D (.lst (acc ++ [y]))) else Pv D (i + 1) H3)
    (hd : ∀ D H', H1 D = none → Pv D xs.length H' → Q (.ref D) H') : LcAt (Itt K a) (gName n) t te vs σ Q H1 := fun D hD =>
  lc_tup (xs := xs) (Pv D) (h0 D hD) (fun i H' _ hv => hl D i H' hD hv) (fun i x H' hi hv => ⟨hw x, hs D i x H' hD hi hv⟩) (fun H' hv => hd D H' hD hv)
theorem filt_mw (b : Nat) (m : Int) : ((((zl (MQ.gl b)).filter fun x => decide (x ≤ m)).map fun j => j).length : Int) = (mw b m : Int) := by
  rw [filt_nat (fun (x : Nat) => decide ((x : Int) ≤ m)) (fun x => decide (x ≤ m)) (MQ.gl b) fun x _ => rfl, zl_len]
  rfl
theorem i4 : (10 : Int) ^ (4 : Int).toNat = 10000 := rfl
/-! ### least_bound, with what it refuses -/
def BadM (K : PySem.W.Frag) (H : Hp) (v : V) (b : Nat) : Prop := (∃ t, TyOf K H v (.type t) ∧ kitB t "int" = some false) ∨ (∃ c, v = .bl c) ∨ ∃ i : Int, v = .int i ∧ ¬ (1 ≤ i ∧ i ≤ (b : Int))
def sp_least_boundX (K : PySem.W.Frag) : Sp := fun vs H Q E => Nod H ∧ ∃ (b : Nat) (v : V), vs = [.int (b : Int), v] ∧ b ≤ 20000 ∧ ((∃ m : Nat, v = .int (m : Int) ∧ 1 ≤ m ∧ m ≤ b ∧ ∀ g : Nat, 1 ≤ g → g ≤ b → m ≤ mw b (g : Int) → mw b ((g : Int) - 1) < m → Q (.int (g : Int)) H) ∨ (BadM K H v b ∧ E (.ref (He.ga K "NoPlace")) none H))
/-- slots: bound many left part count -/
abbrev n_least_boundX : List Str := ["bound", "many", "left", "part", "count"]
def t_least_boundX (K : PySem.W.Frag) (E : XK) : TS := (sFg (tSeq (tIfS (tOr (tNot (tB (tCB (rIsi K) (tCons (tVar 1) (tCons (tC (.ty "int")) tNil))))) (tOr (tB (tCB (rIsi K) (tCons (tVar 1) (tCons (tC (.ty "bool")) tNil)))) (tNot (tTest (tChain oLe oLe (tC (.int 1)) (tVar 1) (tVar 0)))))) (tRaise (He.ga K "NoPlace") (fun cls d _ H => E cls d H)) tNext)
  (tSeq (tAsg (tVar 1) (gName 2))
  (tSeq (tFor (iList K (tCall (sp_by_greatest K) [] E0 (tCons (tVar 0) tNil))) (gTup K 2 (gCons (gName 3) (gCons (gName 4) gNil))) (tSeq (tAug 2 (tVar 4) (ipI fun i j => i - j))
  (tIfS (tTest (tOp oLe (tVar 2) (tC (.int 0)))) tBreak tNext)))
  (tRet (tVar 3))))))
theorem r_least_boundX {K : PySem.W.Frag} {vs : List V} {H : Hp} {Q : VK} {E : XK} (h : sp_least_boundX K vs H Q E) : t_least_boundX K E { nx := fun _ H' => Q .non H', rt := Q } (start n_least_boundX vs) H := by
  obtain ⟨nd, b, v, rfl, hb, h⟩ := h
  rcases h with ⟨m, rfl, hm1, hmb, q⟩ | ⟨bad, q⟩
  rotate_left
  · refine fg_body (q_when (b := true) ?_ (fun _ => q) fun z => nomatch z)
    rcases bad with ⟨t, ty, hk⟩ | ⟨c, rfl⟩ | ⟨i, rfl, hi⟩
    · exact et_eq (et_or (a := true) (b := true) (et_eq (et_not (et_b (ev_isi (ev_v 1) ev_c (.ty "int") (.base ty) (kit_ty (r := false) hk)))) rfl) fun z => nomatch z) rfl
    · exact et_eq (et_or (a := false) (b := true) (et_eq (et_not (et_b (ev_isi (ev_v 1) ev_c (.ty "int") (.base (.bl c)) (kit_ty (r := true) (by decide +kernel))))) rfl) fun _ => et_eq (et_or (a := true) (b := true) (et_b (ev_isi (ev_v 1) ev_c (.ty "bool") (.base (.bl c)) (kit_ty (r := true) (by decide +kernel)))) fun z => nomatch z) rfl) rfl
    · refine et_eq (et_or (a := false) (b := true) (et_eq (et_not (et_b (ev_isi (ev_v 1) ev_c (.ty "int") (.base (.int i)) (kit_ty (r := true) (by decide +kernel))))) rfl) fun _ => et_eq (et_or (a := false) (b := true) (et_b (ev_isi (ev_v 1) ev_c (.ty "bool") (.base (.int i)) (kit_ty (r := false) (by decide +kernel)))) fun _ => et_eq (et_not (et_t (ev_chain (a := decide ((1 : Int) ≤ i)) (b := decide (i ≤ (b : Int))) ev_c (ev_v 1) rv_0 (fun _ => ev_v 0) fun _ => rv_0))) ?_) rfl) rfl
      by_cases h1 : 1 ≤ i
      · have h2 : ¬ i ≤ (b : Int) := fun z => hi ⟨h1, z⟩
        rw [decide_eq_true h1, decide_eq_false h2]; rfl
      · rw [decide_eq_false h1]; rfl
  refine fg_body (q_when (b := false) (et_eq (et_or (a := false) (et_eq (et_not (et_b (ev_isi (ev_v 1) ev_c (.ty "int") (.base (.int (m : Int))) (kit_ty (r := true) (by decide +kernel))))) rfl) fun _ => et_or (a := false) (b := false) (et_b (ev_isi (ev_v 1) ev_c (.ty "bool") (.base (.int (m : Int))) (kit_ty (r := false) (by decide +kernel)))) fun _ => et_eq (et_not (et_t (ev_chain (a := decide ((1 : Int) ≤ (m : Int))) (b := decide ((m : Int) ≤ (b : Int))) ev_c (ev_v 1) rv_0 (fun _ => ev_v 0) fun _ => rv_0))) (by rw [decide_eq_true (by omega), decide_eq_true (by omega)]; rfl)) rfl) (fun z => nomatch z) fun _ => ?_)
  refine q_set (ev_v 1) (q_seq (w_forL (w_callW (w_one (w_v 0 ⟨nd, b, rfl, by omega, by omega, fun p as H1 hp has e1 n1 pr => ⟨p, rfl, ⟨_, sq_at pr.lst⟩, ?_⟩⟩)))))
  have hpair := MQ.cts_pair b (MQ.gl b)
  have htot := gcs_total b
  refine lp_list (xs := as.map V.ref) (fun j σ' H' => ∃ y3 y4 : Option V, σ' = [some (.int (b : Int)), some (.int (m : Int)), some (.int ((m : Int) - (((gcs b).take j).map (·.2)).sum)), y3, y4] ∧ H' = H1 ∧ (((gcs b).take j).map (·.2)).sum < (m : Int)) ⟨none, none, by simp; rfl, rfl, by simp; omega⟩ (fun j σ' H' _ hv => ?_) (fun j v σ' H' hj hv => ?_) fun σ' H' hv => ?_
  · obtain ⟨_, _, _, rfl, _⟩ := hv
    exact sq_at pr.lst
  · obtain ⟨y3, y4, rfl, rfl, hS⟩ := hv
    obtain ⟨a, z, _, rfl, hz, ha⟩ := pr.get hj
    have est := sum_take hz
    obtain ⟨f1, f2⟩ := filt_leG hpair hz
    have g1 := mw_sum b z.1
    have g2 := mw_sum b (z.1 - 1)
    have f1' : (gcs b).filter (fun w => decide (w.1 ≤ z.1)) = (gcs b).take (j + 1) := f1
    have f2' : (gcs b).filter (fun w => decide (w.1 ≤ z.1 - 1)) = (gcs b).take j := f2
    rw [f1'] at g1
    rw [f2'] at g2
    obtain ⟨g, hg, ez⟩ := (MQ.cts_mem (fun x hx => gl_le hx)).mp (List.mem_of_getElem? hz)
    have hgm := MQ.gl_mem hg
    have ez1 : z.1 = (g : Int) := by rw [ez]
    refine g_pair ha (q_aug (a := (m : Int) - (((gcs b).take j).map (·.2)).sum) (ev_v 4) ?_)
    refine s_whenP (ep_le (i := (m : Int) - (((gcs b).take j).map (·.2)).sum - z.2) (ev_v 2) ev_c) (fun hc => ?_) fun hc => ?_
    · refine s_ret (v := .int z.1) (ev_v 3) ⟨H, fg_same e1, ?_⟩
      rw [ez1] at g1 g2 ⊢
      exact q g hgm.1 hgm.2 (by omega) (by omega)
    · refine ⟨some (.int z.1), some (.int z.2), ?_, rfl, by omega⟩
      rw [est, show (m : Int) - ((((gcs b).take j).map (·.2)).sum + z.2) = (m : Int) - (((gcs b).take j).map (·.2)).sum - z.2 by omega]
      rfl
  · obtain ⟨y3, y4, rfl, rfl, hS⟩ := hv
    rw [List.length_map, pr.len, List.take_length, htot] at hS
    omega
/-! ### refused -/
theorem ErrAt.no {K : PySem.W.Frag} {x y : Str} (h : ErrAt K x) (hy : y ∈ five) (hne : x ≠ y) : PySem.W.kitOne K (.ref (He.ga K x)) (.ref (He.ga K y)) = some false := by rw [h.kit y hy, decide_eq_false hne]
theorem ErrAt.yes {K : PySem.W.Frag} {x : Str} (h : ErrAt K x) (hx : x ∈ five) : PySem.W.kitOne K (.ref (He.ga K x)) (.ref (He.ga K x)) = some true := by rw [h.kit x hx, decide_eq_true rfl]
theorem ev_isX {K : PySem.W.Frag} {σ : L2.St} {H : Hp} {ta tb : TE} {a D : Addr} {c : V} {u : Value} {b : Bool} (ha : Ev ta σ H (.ref a)) (hb : Ev tb σ H c) (hH : H a = some (excH a D)) (hD : ExcC K D) (k : ClsV c u) (e : PySem.W.kitOne K (.ref D) u = some b) : Ev (tCB (rIsX K) (tCons ta (tCons tb tNil))) σ H (.bl b) := ev_cb (ea_2 ha hb) fun _ q => ⟨a, D, c, u, b, rfl, hH, hD, k, e, q⟩
/-- isinstance(e, (four others)) -/
theorem w_isX4 {K : PySem.W.Frag} {σ : L2.St} {H : Hp} {ta : TE} {a : Addr} {x y1 y2 y3 y4 : Str} {Q : VK} (hx : ErrAt K x) (ha : Ev ta σ H (.ref a)) (hH : H a = some (excH a (He.ga K x))) (h1 : y1 ∈ five ∧ x ≠ y1) (h2 : y2 ∈ five ∧ x ≠ y2) (h3 : y3 ∈ five ∧ x ≠ y3) (h4 : y4 ∈ five ∧ x ≠ y4)
    (q : ∀ tp, H tp = none → Q (.bl false) (upd H tp (.tup [.ref (He.ga K y1), .ref (He.ga K y2), .ref (He.ga K y3), .ref (He.ga K y4)]))) :
    tCB (rIsXT K) (tCons ta (tCons (tTup (tCons (tC (.ref (He.ga K y1))) (tCons (tC (.ref (He.ga K y2))) (tCons (tC (.ref (He.ga K y3))) (tCons (tC (.ref (He.ga K y4))) tNil))))) tNil)) σ H Q := by
  refine w_cb (w_cons (w_ev ha (w_one (w_tupW (ea_cons ev_c (ea_3 ev_c ev_c ev_c) _ ⟨by show 4 ≤ sizeLine; decide, fun tp htp => ?_⟩)))))
  refine ⟨a, _, tp, _, _, false, rfl, by rw [upd_ne (ne_of_none hH htp)]; exact hH, hx.ec, upd_same, .cons (.own _) (.cons (.own _) (.cons (.own _) (.cons (.own _) .nil))), ?_, q tp htp⟩
  exact kitAny_cons (hx.no h1.1 h1.2) (fun _ => kitAny_cons (hx.no h2.1 h2.2) (fun _ => kitAny_cons (hx.no h3.1 h3.2) (fun _ => kitAny_cons (hx.no h4.1 h4.2) (fun _ => kitAny_nil) fun z => nomatch z) fun z => nomatch z) fun z => nomatch z) fun z => nomatch z
def sp_law_refused (K : PySem.W.Frag) : Sp := fun vs H Q _ => Nod H ∧ ∃ (b : Nat) (v : V), vs = [.int (b : Int), v] ∧ b ≤ 20000 ∧ BadM K H v b ∧ Q (.bl true) H
/-- slots: bound thing caught e others -/
abbrev n_law_refused : List Str := ["bound", "thing", "caught", "e", "others"]
def t_law_refused (K : PySem.W.Frag) : TS := (sFg (tSeq (tAsg (tC .non) (gName 2))
  (tSeq (tTryK K (.ref (He.ga K "PartError")) 3 (fun W => (tDrop (tCallS (sp_least_boundX K) (WE W) (tCons (tVar 0) (tCons (tVar 1) tNil))))) (fun a => (tAsg (tVar 3) (gName 2))))
  (tSeq (tAsg (tCB (rIsXT K) (tCons (tVar 2) (tCons (tTup (tCons (tC (.ref (He.ga K "NoCommand"))) (tCons (tC (.ref (He.ga K "NoNumber"))) (tCons (tC (.ref (He.ga K "NoPrimes"))) (tCons (tC (.ref (He.ga K "NoText"))) tNil))))) tNil))) (gName 4))
  (tRet (tAndV (tCB (rIsX K) (tCons (tVar 2) (tCons (tC (.ref (He.ga K "NoPlace"))) tNil))) (tAndV (tCB (rIsX K) (tCons (tVar 2) (tCons (tC (.ty "ValueError")) tNil))) (tNotV (tVar 4)))))))))
theorem r_law_refused {K : PySem.W.Frag} (hX : Errs K) {vs : List V} {H : Hp} {Q : VK} {E : XK} (h : sp_law_refused K vs H Q E) : t_law_refused K { nx := fun _ H' => Q .non H', rt := Q } (start n_law_refused vs) H := by
  obtain ⟨nd, b, v, rfl, hb, bad, q⟩ := h
  have hp := hX "NoPlace" (by decide)
  refine fg_body (q_set ev_c (q_seq (w_tryk (s_dropW (ea_2 (ev_v 0) (ev_v 1) _ ⟨nd, b, v, rfl, hb, .inr ⟨bad, ?_⟩⟩)))))
  refine w_caught hX (by decide) fun a ha => s_set (ev_v 3) ?_
  have o : Own H [] (upd H a (excH a (He.ga K "NoPlace"))) := ⟨nod_upd nd trivial, ex_new ha, fun _ h => (List.not_mem_nil h).elim, List.Pairwise.nil, fun _ h => (List.not_mem_nil h).elim⟩
  dsimp only
  refine q_setW (w_isX4 hp (ev_v 2) upd_same (by decide) (by decide) (by decide) (by decide) fun tp htp => ?_)
  have n2 := o.nod
  replace o := o.tup (xs := [.ref (He.ga K "NoCommand"), .ref (He.ga K "NoNumber"), .ref (He.ga K "NoPrimes"), .ref (He.ga K "NoText")]) htp
  have hH : upd (upd H a (excH a (He.ga K "NoPlace"))) tp (.tup [.ref (He.ga K "NoCommand"), .ref (He.ga K "NoNumber"), .ref (He.ga K "NoPrimes"), .ref (He.ga K "NoText")]) a = some (excH a (He.ga K "NoPlace")) := by rw [upd_ne (ne_of_none upd_same htp)]; exact upd_same
  exact s_ret (v := .bl true) (ev_eq (ev_and (a := true) (b := true) (ev_isX (ev_v 2) ev_c hH hp.ec (.own _) (hp.yes (by decide))) fun _ => ev_eq (ev_and (a := true) (b := true) (ev_isX (ev_v 2) ev_c hH hp.ec (.ty _) hp.val) fun _ => ev_eq (ev_not (ev_v 4)) rfl) rfl) rfl) ⟨H, fg_same o.ex, q⟩
end Px
set_option Elab.async false
set_option linter.all false
set_option maxRecDepth 100000
set_option maxHeartbeats 4000000
namespace Px
open PySem PySem.Spec PyProof.Rows L2
/-! ### defs that are called where no list or tuple is being shown (repr asks for it) -/
def Calm (A : Around) : Prop := A.guards = some []
structure FnG (P : Program) (w : World) (K : PySem.W.Frag) (mg : Str → Option Value) (base : Heap) (k : Nat) (f : Addr) (fd : FuncData) (ps : List Str) (sp : Sp) : Prop where
  len : ∀ vs H Q E, sp vs H Q E → vs.length = ps.length
  go : ∀ {A : Around} {outer : List Env} {s : Shared} {H : Hp} {args : Args} {us : List Value} {vs : List V} {Q : VK} {E : XK}, Room k A → Calm A → Env0 P w K mg base A outer s H → BindsTo s fd args (ps.zip us) → Vals vs us → sp vs H Q E → codeAny (model P w) A (.call (.ref f) args) (CR CX0 outer P w H s Q E) s
theorem FnG.of {P : Program} {w : World} {K : PySem.W.Frag} {mg : Str → Option Value} {base : Heap} {k : Nat} {f : Addr} {fd : FuncData} {ps : List Str} {sp : Sp} (F : FnOk P w K mg base CX0 k f fd ps sp) : FnG P w K mg base k f fd ps sp :=
  ⟨F.len, fun r _ e b v h => F.run _ _ _ _ _ _ _ _ _ r e b v h⟩
/-- by its body -/
theorem gn_of {P : Program} {w : World} {K : PySem.W.Frag} {mg : Str → Option Value} {base : Heap} {k : Nat} {f : Addr} {x q : Str} {ar : Arguments} {bd : List Stmt} {sc : Scope} {dv : List V} {kw : List (Str × V)} {fd : FuncData} {N ps : List Str} {sp : Sp}
    (F : FunD K x q ar bd sc dv kw f fd) (S : FnScope N ps sc) (len : ∀ vs H Q E, sp vs H Q E → vs.length = ps.length)
    (walk : ∀ (cd : Value) (A : Around) (outer : List Env) (s : Shared) (H : Hp) (vs : List V) (Q : VK) (E : XK), Room k (A.deeper (envOfC q sc s.heap.objs.size f cd)) → Calm (A.deeper (envOfC q sc s.heap.objs.size f cd)) → sp vs H Q E →
      ∃ t, PSs (cxOf CX0 P w K mg base N q sc f cd A outer s H E) bd t ∧ t { nx := fun _ H' => Q .non H', rt := Q } (start N vs) H) : FnG P w K mg base (k + 1) f fd ps sp := by
  obtain ⟨c1, c2, d1, d2, dc, pm, an, cd, ct, sl, rfl, at_, cdIn, _, _⟩ := F.ex
  refine ⟨len, ?_⟩
  intro A outer s H args us vs Q E room calm env bind vals prom
  have inK : K.In s.heap := env.mod.kin.keeps fun b o z => (env.bs b o z).1
  have free : s.heap.NoLimit := env.mod.nolimit.keeps fun b o z => (env.bs b o z).1
  refine codeAny_call_function room.depth (inK _ _ at_) rfl S.co S.gen rfl (PySem.W.codeRec_of inK cdIn) (bind _ _ _ _ ?_)
  refine wpAny_newFunctionEnv_cells S.kind ?_ ?_
  · rintro ⟨n, v⟩ hm
    rcases S.par n (List.of_mem_zip hm).1 with z | z
    · exact Or.inl z
    · exact Or.inr ⟨z, PySem.W.cellsFrom_some _ _ _ (Or.inl z)⟩
  intro ev hev s1 st
  subst hev
  refine ⟨free.keeps st.toInCall.keep, codeAny_func ?_⟩
  obtain ⟨t, der, run⟩ := walk cd A outer s H vs Q E (room.deeper _) calm prom
  refine wpAny_mono (der.run [] s1 (start N vs) H _ (inv_start S room.hd env (len _ _ _ _ prom) vals st) run) ?_ fun _ _ z => z
  intro fl s' z
  cases fl with
  | ret u => obtain ⟨v, _, H', J, r, y⟩ := z; exact ⟨v, H', J.os, J.bare, J.base, J.hok, r, y⟩
  | next => obtain ⟨_, H', J, y⟩ := z; exact ⟨V.non, H', J.os, J.bare, J.base, J.hok, rfl, y⟩
  | brk => exact (show False from z.choose_spec.choose_spec.2).elim
  | cont => exact (show False from z.choose_spec.choose_spec.2).elim
/-- a def of the text, by its name -/
structure Gn1 (P : Program) (w : World) (K : PySem.W.Frag) (mg : Str → Option Value) (base : Heap) (x : Str) (k : Nat) (ps : List Str) (sp : Sp) : Prop where
  ex : ∃ (f : Addr) (fd : FuncData), FnG P w K mg base k f fd ps sp ∧ mg x = some (.ref f) ∧ PySem.W.keepIn K (.ref f) = true ∧ Binds K fd ps []
theorem pe_gn {X : Cx} {k : Nat} {ps : List Str} {sp : Sp} {x : Str} {p pos : Pos} {e : Expr} {es : List Expr} {t : TA} (F : Gn1 X.prog X.w X.K X.mg X.base x k ps sp) (hr : Room k X.A) (hc : Calm X.A) (ha : PA X (e :: es) t) (hg : Gl X x := by rfl)
    (hdb : (x == ("__debug__" : Str)) = false := by decide) (he : starEach (e :: es) X.env = (false, eval e X.env) :: starEach es X.env := by rfl) (hpl : (backTo pos (starEach es X.env)).any (·.1) = false := by rfl) :
    PE X (.Call (.Name x p) (e :: es) [] pos) (tCall sp [] E0 t) := by
  obtain ⟨f, fd, F1, g, kp, b⟩ := F.ex
  constructor
  intro pins s σ H Q I h
  refine wpAny_Call_Name_kw (ld_glob I hg g ?_ hdb)
  refine PySem.W.callWith_K (h₀ := X.base) I.ok.mod.kin kp (thn (ha.run pos pins s σ H _ I h) fun us s1 z => ?_) he hpl
  obtain ⟨vs, H1, I1, r, q⟩ := z
  have r2 : Vals (vs ++ []) (us ++ []) := r.append .nil
  refine ⟨I1.kIn, wpAny_call (codeAny_mono (F1.go hr hc I1.env0 (b s1 us I1.kIn (r2.length.symm.trans (F1.len _ _ _ _ q))) r2 q) ?_)⟩
  · intro rr s' z
    match rr, z with
    | .ok (.ret u), z => exact I1.after z
/-! ### repr -/
abbrev cRepr (K : PySem.W.Frag) : List V → Hp → VK → Prop := fun xs H Q => ∃ (a : Addr) (d : PyData), xs = [.ref a] ∧ Dp K H (.ref a) d ∧ d.showable = true ∧ d.hasDict = false ∧ d.depth ≤ 50 ∧ d.shown.length ≤ sizeLine ∧ Q (.str d.shown) H
theorem call_reprD {X : Cx} {k : Nat} (hr : Room k X.A) (hc : Calm X.A) : CallR X (.builtin "repr") (cRepr X.K) := by
  intro pins s σ H xs us Q I r h
  obtain ⟨a, d, rfl, hd, h1, h2, h3, h4, q⟩ := h
  cases r with
  | cons r rr =>
    cases rr
    cases r
    obtain ⟨as, rd⟩ := Dp.reads I d _ _ hd rfl
    have := hr.un
    refine repr_of_reads' rd h1 (PyData.noDict_hsm h2) hc (by omega) (fun b o z => z) (fun h' u tk hk => ?_) h4
    exact ⟨.str d.shown, H, I.kept (h' := h') (t' := tk) hk, ⟨u, rfl⟩, q⟩
/-! ### the end -/
theorem lawG {P : Program} {w : World} {K : PySem.W.Frag} {mg mb : Str → Option Value} {k : Nat} {fa a : Addr} {fd : FuncData} {x : Str} {sp : Sp} {s1 : Shared} {vs : List Value} {ns : List Int}
    (inK : K.In s1.heap) (nsM : s1.heap.Ns mainGlobals mg) (nsB : s1.heap.Ns builtinsNs mb) (boot : ∀ x : Str, x ≠ "__name__" → mb x = bootBuiltins x) (lim : s1.heap.NoLimit) (gens : s1.gens = #[])
    (ha : s1.heap.get? a = some { cls := .type "list", data := .seq vs.toArray }) (hints : IntsAre vs ns) (small : ns.length ≤ sizeLine) (room : Room k callerA)
    (F : ∀ base : Heap, K.In base → base.Ns mainGlobals mg → FnG P w K mg base k fa fd [x] sp) (bind : ∀ (s : Shared) (u : Value), BindsTo s fd ⟨[u], []⟩ [(x, u)])
    (prom : ∀ H : Hp, Only H → SqL K H a (ns.map V.int) → sp [.ref a] H (fun v _ => v = .bl true) fun _ _ _ => False) :
    codeAny (model P w) callerA (.call (.ref fa) ⟨[.ref a], []⟩) (fun r s' => r = .ok (.ret (.bool true)) ∧ OldK s1.heap s'.heap ∧ s'.os = s1.os ∧ AllBare s'.gens) s1 := by
  have rel := vals_ints hints
  have len := hints.length
  have main : ∀ H : Hp, Only H → SqL K H a (ns.map V.int) → HOk P w H s1.heap → (∀ b, H b ≠ none → b = a ∧ K.lookup a = none) → codeAny (model P w) callerA (.call (.ref fa) ⟨[.ref a], []⟩) (fun r s' => r = .ok (.ret (.bool true)) ∧ OldK s1.heap s'.heap ∧ s'.os = s1.os ∧ AllBare s'.gens) s1 := by
    intro H only sq ok just
    have off : ∀ {b : Addr}, (b = a → K.lookup a = none → False) → H b = none := fun {b} z => by
      by_cases e : H b = none
      · exact e
      · exact (z (just b e).1 (just b e).2).elim
    have low : ∀ {b : Addr} {m : Str → Option Value}, s1.heap.Ns b m → (hidT s1.heap H).Ns b m := fun {b m} z => by
      obtain ⟨o, es, ep, e, dd, r⟩ := z
      refine ⟨o, es, ep, hidT_get e (off fun e1 _ => ?_), dd, r⟩
      subst e1
      rw [ha] at e
      cases e
      cases dd
    have inB : K.In (hidT s1.heap H) := fun b o e => hidT_get (inK b o e) (off fun e1 e2 => by
      subst e1
      rw [e] at e2
      cases e2)
    have md : Mod K mg (hidT s1.heap H) := by
      obtain ⟨mc, h1, h2⟩ := lim
      exact ⟨inB, low nsM, ⟨mb, low nsB, boot⟩, mc, low h1, h2⟩
    have env : Env0 P w K mg (hidT s1.heap H) callerA [] s1 H := {
      frames := rfl
      mod := md
      bs := fun b o e => of_hidT e
      bsz := Nat.le_of_eq (hidT_size _ _)
      funs := trivial
      frf := fun b z => absurd (show b ∈ ([] : List Addr) from z) (by simp)
      hok := ok
      bare := .of_eq gens }
    refine codeAny_mono ((F _ inB (low nsM)).go (us := [.ref a]) (vs := [.ref a]) room rfl env (bind s1 (.ref a)) (.cons rfl .nil) (prom H only sq)) ?_
    intro r s' z
    match r, z with
    | .ok (.ret u), z =>
      obtain ⟨v, H', h1, h2, un, ok', rv, hv⟩ := z
      have hv : v = .bl true := hv
      subst hv
      obtain rfl : u = Value.bool true := rv
      refine ⟨rfl, OldK.of_keep ?_, h1, h2⟩
      intro b o e
      rcases only b with n | ⟨ob, xs, n⟩
      · exact un.keep b o e n (by intro z; exact absurd (show b ∈ ([] : List Addr) from z) (by simp)) (by simp)
      · have e1 := (ok b _ n).1
        have e2 := (ok' b _ (un.frzs b ob _ n)).1
        rw [e] at e1
        cases e1
        exact e2
  by_cases hk : K.lookup a = none
  · let ob : Obj := { cls := .type "list", data := .seq vs.toArray }
    have only : ∀ b, (if b = a then some (HO.frz ob (.lst (ns.map V.int))) else none) = none ∨ ∃ o xs, (if b = a then some (HO.frz ob (.lst (ns.map V.int))) else none) = some (.frz o (.lst xs)) := fun b => by
      by_cases h : b = a
      · exact Or.inr ⟨_, _, if_pos h⟩
      · exact Or.inl (if_neg h)
    refine main (fun b => if b = a then some (.frz ob (.lst (ns.map V.int))) else none) only (Or.inl (Or.inr ⟨ob, if_pos rfl⟩)) ?_ fun b z => ?_
    · intro b u z
      by_cases h : b = a
      · subst h
        have z1 := (if_pos rfl).symm.trans z
        cases z1
        exact ⟨ha, by rw [List.length_map]; exact small, vs, _, rel, ha⟩
      · have z1 := (if_neg h).symm.trans z
        cases z1
    · by_cases h : b = a
      · exact ⟨h, hk⟩
      · exact absurd (if_neg h) z
  · cases hs : K.lookup a with
    | none => exact absurd hs hk
    | some o =>
      have e := inK a o hs
      rw [ha] at e
      cases e
      refine main (fun _ => none) (fun _ => Or.inl rfl) (Or.inr ⟨_, vs.toArray, _, hs, rfl, rfl, rfl, by rw [List.size_toArray, len]; exact small, by simpa using rel⟩) (fun b u z => ?_) fun b z => absurd rfl z
      have z' : (none : Option HO) = some u := z
      cases z'
theorem walkG {l : PySem.W.OpenLaw} {n k : Nat} {q : Program} {loose : List Str} {XP : (Str → Option Value) → Heap → Prop} {YP : World → Heap → Prop} {d : DefRec} {x : Str} (hn : l.most = some n) (hn2 : n ≤ sizeLine) (hdf : d.params.defaults = []) (room : Room k callerA)
    (F : ∀ (w : World) (mg : Str → Option Value) (fa : Addr) (h : Heap), YP w h → h.Ns mainGlobals mg → mg d.name = some (.ref fa) → ∃ (K : PySem.W.Frag) (fd : FuncData) (sp : Sp), K.In h ∧ (∀ (s : Shared) (u : Value), BindsTo s fd ⟨[u], []⟩ [(x, u)]) ∧
      (∀ (H : Hp) (a : Addr) (ns : List Int), ns.length ≤ n → Only H → SqL K H a (ns.map V.int) → sp [.ref a] H (fun v _ => v = .bl true) fun _ _ _ => False) ∧ ∀ base : Heap, K.In base → base.Ns mainGlobals mg → FnG l.prog w K mg base k fa fd [x] sp) :
    PySem.W.WalkO q loose XP YP l.row.toRowW d [] (fun f vs => PySem.call f vs) := by
  refine Att.attach_call hn hdf ?_
  intro w s0 s1 mg mb fa o pm cd doc a vs ns G Y _ _ _ hmg obj hints len gens
  obtain ⟨K, fd, sp, inK, bind, prom, hF⟩ := F w mg fa _ Y G.T.g hmg
  exact lawG inK G.T.g G.T.b G.T.builtins G.T.nolimit gens obj hints (Nat.le_trans len hn2) room hF bind fun H h1 h2 => prom H a ns len h1 h2
end Px
set_option Elab.async false
set_option linter.all false
set_option maxRecDepth 100000
set_option maxHeartbeats 4000000
namespace Px
open PySem PySem.Spec PyProof.Rows L2
/-! ### sys.modules is a dict, so no list of the law lies there -/
def sysB (K : PySem.W.Frag) : Bool := match K.lookup sysModules with
  | some o => (match o.cls with
    | .type c => decide (c = "dict")
    | _ => false)
  | none => false
theorem sysB_ok {K : PySem.W.Frag} {h : Heap} (b : sysB K = true) (i : K.In h) : ∃ o, h.get? sysModules = some o ∧ o.cls = .type "dict" := by
  unfold sysB at b
  cases e : K.lookup sysModules with
  | none => rw [e] at b; cases b
  | some o =>
    rw [e] at b
    refine ⟨o, i _ _ e, ?_⟩
    dsimp only at b
    cases hc : o.cls with
    | type c => rw [hc] at b; exact congrArg Value.type (of_decide_eq_true b)
    | _ => rw [hc] at b; cases b
/-! ### data, dicts with it -/
mutual
inductive Dq (K : PySem.W.Frag) (H : Hp) : V → PyData → Prop
  | non : Dq K H .non .none
  | bl (b : Bool) : Dq K H (.bl b) (.bool b)
  | int (i : Int) : Dq K H (.int i) (.int i)
  | str (x : Str) : Dq K H (.str x) (.str x)
  | lst {a : Addr} {xs : List V} {ds : List PyData} : SqL K H a xs → DqAll K H xs ds → Dq K H (.ref a) (.list ds)
  | tup {a : Addr} {xs : List V} {ds : List PyData} : SqT K H a xs → DqAll K H xs ds → Dq K H (.ref a) (.tuple ds)
  | dK {a : Addr} {kvs : List (Key × V)} {ps : List (PyData × PyData)} : H a = some (.dK kvs) → DqAll K H (kvs.map fun p => kV p.1) (ps.map (·.1)) → DqAll K H (kvs.map (·.2)) (ps.map (·.2)) → Dq K H (.ref a) (.dict ps)
inductive DqAll (K : PySem.W.Frag) (H : Hp) : List V → List PyData → Prop
  | nil : DqAll K H [] []
  | cons {v : V} {vs : List V} {d : PyData} {ds : List PyData} : Dq K H v d → DqAll K H vs ds → DqAll K H (v :: vs) (d :: ds)
end
theorem pairs_vals {P : Program} {w : World} : ∀ {es : List DictEntry} {vs : List (Key × Value)} {kvs : List (Key × V)}, Pairs (mixKind P w) es vs → KV kvs vs → Vals (kvs.map fun p => kV p.1) (es.map (·.key)) ∧ Vals (kvs.map (·.2)) (es.map (·.val))
  | [], _, _, .nil, .nil => ⟨.nil, .nil⟩
  | e :: es, (k, v) :: vs, (k', v') :: kvs, .cons hk hv hp, .cons hr hq => by
    obtain ⟨h1, h2⟩ := pairs_vals hp hq
    obtain ⟨rfl, hr2⟩ := hr
    refine ⟨.cons ?_ h1, .cons ?_ h2⟩
    · rcases keyIs_shape hk with ⟨i, t, rfl, e2⟩ | ⟨x, t, rfl, e2⟩
      · exact ⟨t, e2⟩
      · exact ⟨t, e2⟩
    · show RelV v' e.val; rw [hv]; exact hr2
section
variable {X : Cx} {pins : List (Addr × Obj)} {σ : L2.St} {H : Hp} {s : Shared}
mutual
theorem Dq.reads (I : Inv X pins σ H s) (hS : sysB X.K = true) : ∀ {v : V} {d : PyData}, Dq X.K H v d → ∀ u, RelV v u → ∃ as, Reads s.heap u d as ∧ sysModules ∉ as
  | _, _, .non, u, r => by cases r; exact ⟨_, .none, by simp⟩
  | _, _, .bl b, u, r => by cases r; exact ⟨_, .bool b, by simp⟩
  | _, _, .int i, u, r => by obtain ⟨t, rfl⟩ := r; exact ⟨_, .int i t, by simp⟩
  | _, _, .str x, u, r => by obtain ⟨t, rfl⟩ := r; exact ⟨_, .str x t, by simp⟩
  | _, _, .lst hs ha, u, r => by
    cases r
    obtain ⟨its, rv, ⟨o, n, ho, hc, _, hd⟩, _⟩ := I.list hs
    obtain ⟨as, hr, hn⟩ := DqAll.reads I hS ha its rv
    refine ⟨_, Reads.list ho hc hd hr, fun z => ?_⟩
    rcases List.mem_cons.mp z with z | z
    · obtain ⟨o2, h2, c2⟩ := sysB_ok hS I.kIn
      rw [z, ho] at h2
      cases h2
      rw [hc] at c2
      exact absurd c2 (by decide)
    · exact hn z
  | _, _, .tup hs ha, u, r => by
    cases r
    obtain ⟨its, rv, ⟨o, ho, hc, n, hd⟩, _⟩ := I.tuple hs
    obtain ⟨as, hr, hn⟩ := DqAll.reads I hS ha its rv
    exact ⟨_, Reads.tuple ho hc hd hr, hn⟩
  | _, _, .dK (a := a) hH h1 h2, u, r => by
    cases r
    obtain ⟨_, hsm, vs, rel, o, es, ep, ho, hx, hd, _, hp, _⟩ := dk_of I.hok hH
    obtain ⟨v1, v2⟩ := pairs_vals hp rel
    obtain ⟨as, hr, hn⟩ := DqAll.reads I hS h1 _ v1
    obtain ⟨bs, hr2, hn2⟩ := DqAll.reads I hS h2 _ v2
    refine ⟨_, Reads.dict ho hx.1 hd hr hr2, fun z => ?_⟩
    rcases List.mem_append.mp z with z | z
    · rcases List.mem_cons.mp z with z | z
      · rw [z] at hsm
        simp at hsm
      · exact hn z
    · exact hn2 z
theorem DqAll.reads (I : Inv X pins σ H s) (hS : sysB X.K = true) : ∀ {vs : List V} {ds : List PyData}, DqAll X.K H vs ds → ∀ us, Vals vs us → ∃ as, ReadsAll s.heap us ds as ∧ sysModules ∉ as
  | _, _, .nil, us, r => by cases r; exact ⟨_, .nil, by simp⟩
  | _, _, .cons h1 h2, us, r => by
    cases r with
    | cons r1 r2 =>
      obtain ⟨as, q1, n1⟩ := Dq.reads I hS h1 _ r1
      obtain ⟨bs, q2, n2⟩ := DqAll.reads I hS h2 _ r2
      refine ⟨_, .cons q1 q2, fun z => ?_⟩
      rcases List.mem_append.mp z with z | z
      · exact n1 z
      · exact n2 z
end
end
/-! ### repr, str -/
def cReprQ (K : PySem.W.Frag) : List V → Hp → VK → Prop := fun xs H Q => ∃ (v : V) (d : PyData), xs = [v] ∧ Dq K H v d ∧ d.showable = true ∧ d.depth ≤ 50 ∧ d.shown.length ≤ sizeLine ∧ Q (.str d.shown) H
theorem call_reprQ {X : Cx} {k : Nat} (hS : sysB X.K = true) (hr : Room k X.A) (hc : Calm X.A) : CallR X (.builtin "repr") (cReprQ X.K) := by
  intro pins s σ H xs us Q I r h
  obtain ⟨v, d, rfl, hd, h1, h3, h4, q⟩ := h
  cases r with
  | cons r rr =>
    cases rr
    have fin : ∀ t tk, ∃ v' H', Inv X pins σ H' { s with toks := tk } ∧ RelV v' (.str d.shown t) ∧ Q v' H' := fun t tk => ⟨.str d.shown, H, I.tok _, ⟨t, rfl⟩, q⟩
    cases hd with
    | non => cases r; exact P.repr_of_none (fin _ _)
    | bl b => cases r; exact P.repr_of_bool (by cases b <;> exact fin _ _)
    | int i => obtain ⟨t, rfl⟩ := r; exact P.repr_of_int (of_decide_eq_true h1) (fin _ _)
    | str x => obtain ⟨t, rfl⟩ := r; exact P.repr_of_str (fin _ _) h4
    | lst a b =>
      cases r
      obtain ⟨as, rd, hn⟩ := Dq.reads I hS (.lst a b) _ rfl
      have := hr.un
      exact repr_of_reads' rd h1 (fun _ => hn) hc (by omega) (fun b o z => z) (fun h' u tk hk => ⟨.str _, H, I.kept (h' := h') (t' := tk) hk, ⟨u, rfl⟩, q⟩) h4
    | tup a b =>
      cases r
      obtain ⟨as, rd, hn⟩ := Dq.reads I hS (.tup a b) _ rfl
      have := hr.un
      exact repr_of_reads' rd h1 (fun _ => hn) hc (by omega) (fun b o z => z) (fun h' u tk hk => ⟨.str _, H, I.kept (h' := h') (t' := tk) hk, ⟨u, rfl⟩, q⟩) h4
    | dK a b c =>
      cases r
      obtain ⟨as, rd, hn⟩ := Dq.reads I hS (.dK a b c) _ rfl
      have := hr.un
      exact repr_of_reads' rd h1 (fun _ => hn) hc (by omega) (fun b o z => z) (fun h' u tk hk => ⟨.str _, H, I.kept (h' := h') (t' := tk) hk, ⟨u, rfl⟩, q⟩) h4
end Px
set_option Elab.async false
set_option linter.all false
set_option maxRecDepth 100000
set_option maxHeartbeats 4000000
namespace Px
open PySem L2 PySem.W
/-! ### dict(enumerate(xs)) -/
def enK {α : Type} : Nat → List α → List (Key × α)
  | _, [] => []
  | j, x :: xs => (.inl (j : Int), x) :: enK (j + 1) xs
theorem enK_len {α : Type} : ∀ (xs : List α) (j : Nat), (enK j xs).length = xs.length
  | [], _ => rfl
  | _ :: xs, j => by rw [enK, List.length_cons, enK_len xs, List.length_cons]
theorem enK_get {α : Type} : ∀ (xs : List α) (j i : Nat), (enK j xs)[i]? = (xs[i]?).map fun x => (.inl ((j + i : Nat) : Int), x)
  | [], _, _ => by simp [enK]
  | x :: xs, j, 0 => rfl
  | x :: xs, j, i + 1 => by
    rw [enK, List.getElem?_cons_succ, enK_get xs, List.getElem?_cons_succ, show j + 1 + i = j + (i + 1) by omega]
theorem enK_kv : ∀ {xs : List V} {us : List Value} {j : Nat}, Vals xs us → KV (enK j xs) (enK j us)
  | [], _, _, .nil => .nil
  | _ :: _, _, _, .cons r rr => .cons ⟨rfl, r⟩ (enK_kv rr)
def tDictEnum (K : PySem.W.Frag) (ta : TA) : TE := fun σ H Q => ta σ H fun vs H1 => ∃ a xs, vs = [.ref a] ∧ SqL K H1 a xs ∧ ∀ l, H1 l = none → Q (.ref l) (upd H1 l (.dK (mergeK [] (enK 0 xs))))
theorem pe_dictEnum {X : Cx} {e : Expr} {ta : TA} {p1 p2 pos1 pos2 : Pos} (hg1 : Gl X "dict") (hm1 : X.mg "dict" = none) (hg2 : Gl X "enumerate") (hm2 : X.mg "enumerate" = none) (hc : X.calm = true) (ha : PA X [e] ta) (hs : starEach [e] X.env = [(false, eval e X.env)] := by rfl)
    (hs2 : starEach [.Call (.Name "enumerate" p2) [e] [] pos2] X.env = [(false, eval (.Call (.Name "enumerate" p2) [e] [] pos2) X.env)] := by rfl) :
    PE X (.Call (.Name "dict" p1) [.Call (.Name "enumerate" p2) [e] [] pos2] [] pos1) (tDictEnum X.K ta) := by
  refine ⟨fun pins s σ H Q I h => ?_⟩
  refine wpAny_Call_Name_kw (ld_blt I hg1 hm1 (show bootBuiltins "dict" = some (.type "dict") by decide +kernel) ?_ (by decide) (by decide))
  refine PyProof.Rows.callWith_type1 ?_ hs2 rfl
  rw [hs2]
  refine Calls.spliced_cons (thn (Q := fun v s1 => wpAny (model X.prog X.w) X.A (call (.type "dict") [v]) (EP X pins σ Q) X.xe s1) ?_ fun v s1 h1 => Calls.spliced_nil h1)
  refine wpAny_Call_Name_kw (ld_blt I hg2 hm2 (show bootBuiltins "enumerate" = some (.type "enumerate") by decide +kernel) ?_ (by decide) (by decide))
  refine PyProof.Rows.callWith_type1 (thn (ha.run pos2 pins s σ H _ I h) fun us s1 ⟨vs, H1, I1, r1, q1⟩ => ?_) hs rfl
  obtain ⟨a, xs, ex, hq, q⟩ := q1
  subst ex
  cases r1 with
  | cons r rr =>
    cases rr
    cases r
    obtain ⟨its, rv, p', hz⟩ := I1.list hq
    refine call_enumerate_list p'.isList fun h' he hit hsz hk => ?_
    have hal : a < s1.heap.objs.size := let ⟨_, ho, _⟩ := p'.isList; Heap.lt_size ho
    have hlen : its.length ≤ sizeLine := by rw [← rv.length]; exact hz
    refine PySem.call_dict_pairs (s := { s1 with heap := h' }) (knd := mixKind X.prog X.w) (kvs := enK 0 its) (PairArg.enumerate (s1.heap.objs.size + 1) s1.heap.objs.size a (Nat.succ_ne_self _) (Nat.ne_of_lt (Nat.lt_succ_of_lt hal)) (Nat.ne_of_lt hal) its.toArray) (I1.ok.hd hc) ⟨⟨_, he⟩, hit, p'.isList.at fun o x => hk _ o x⟩ ⟨by rw [enK_len, List.size_toArray], fun i key v hr => ?_⟩ (by rw [List.size_toArray]; exact hlen) fun h2 tk hd2 hk2 => ?_
    · obtain ⟨⟨t, rfl⟩, hv⟩ := hr
      refine ⟨.inl (i : Int), ?_, ?_⟩
      · rw [enK_get, Nat.zero_add]
        have hv : its[i]? = some v := by simpa using hv
        rw [hv]; rfl
      · show Value.isInt (i : Int) (.int (i : Int) t) = true
        simp [Value.isInt]
    have hkeep : ∀ b u, s1.heap.get? b = some u → h2.get? b = some u := fun b u x => hk2 b u (fun z => by
      simp only [List.mem_cons, List.not_mem_nil, or_false] at z
      rcases z with z | z
      · exact Nat.ne_of_lt (Nat.lt_succ_of_lt (Heap.lt_size x)) z
      · exact Nat.ne_of_lt (Heap.lt_size x) z) (hk b u x)
    have hm : (h'.objs.size == sysModules) = false := beq_eq_false_iff_ne.mpr (by rw [hsz]; exact Nat.ne_of_gt (Nat.lt_of_lt_of_le I1.big (Nat.le_add_right _ _)))
    have hl2 : (mergeK [] (enK 0 xs)).length ≤ sizeLine := by
      refine Nat.le_trans (length_mergeK _ []) ?_
      rw [List.length_nil, Nat.zero_add, enK_len]
      exact hz
    exact ⟨.ref h'.objs.size, upd H1 h'.objs.size (.dK (mergeK [] (enK 0 xs))), I1.laid (a := h'.objs.size) (t' := tk) hkeep (by rw [hsz]; exact Nat.le_add_right _ _) (show ObjOk X.prog X.w _ _ _ (.dK (mergeK [] (enK 0 xs))) from ⟨hl2, hm, merged [] (enK 0 its), KV.merge (enK_kv rv) .nil, hd2⟩), rfl, q _ (I1.hok.fresh (by rw [hsz]; exact Nat.le_add_right _ _))⟩
/-! ### str of a list -/
def cStrQ (K : PySem.W.Frag) : List V → Hp → VK → Prop := fun xs H Q => ∃ (a : Addr) (d : PyData), xs = [.ref a] ∧ Dq K H (.ref a) d ∧ d.showable = true ∧ d.depth ≤ 50 ∧ d.shown.length ≤ sizeLine ∧ Q (.str d.shown) H
theorem call_strQ {X : Cx} {k : Nat} (hS : sysB X.K = true) (hr : Room k X.A) (hc : Calm X.A) : CallR X (.type "str") (cStrQ X.K) := by
  intro pins s σ H xs us Q I r h
  obtain ⟨a, d, rfl, hd, h1, h3, h4, q⟩ := h
  cases r with
  | cons r rr =>
    cases rr
    cases r
    obtain ⟨as, rd, hn⟩ := Dq.reads I hS hd _ rfl
    have := hr.un
    exact str_of_reads rd h1 (fun _ => hn) hc (by omega) (fun b o z => z) (fun h' u tk hk => ⟨.str _, H, I.kept (h' := h') (t' := tk) hk, ⟨u, rfl⟩, q⟩) h4
/-! ### the hooks -/
abbrev AlS : Type := AlL × Bool
def obsS (n : Nat) (fa : List He.Fa) (fn : List He.DefD) (ls : List (Str × List He.Dv)) (g : Addr → Option Obj) : AlS :=
  ((He.obsD fa fn (He.frG g (sysModules :: He.asD g n)), ls.all fun q => He.lstB (He.frG g (sysModules :: He.asD g n)) q.1 q.2), sysB (He.frG g (sysModules :: He.asD g n)))
def hookS (n : Nat) (fa : List He.Fa) (fn : List He.DefD) (ls : List (Str × List He.Dv)) : PySem.W.Hook where
  α := AlS
  obs := fun s => obsS n fa fn ls s.heap.get?
  val := fun _ => ((He.valD fn, true), true)
  says := fun _ h => ∃ K : PySem.W.Frag, K.In h ∧ He.SaysD fa fn K ∧ (ls.all fun q => He.lstB K q.1 q.2) = true ∧ sysB K = true
  of := fun _ _ e => ⟨_, He.frG_in, congrArg (fun z : AlS => z.1.1) e, congrArg (fun z : AlS => z.1.2) e, congrArg (fun z : AlS => z.2) e⟩
  keeps := fun _ _ _ ⟨K, hK, c1, c2, c3⟩ k => ⟨K, PySem.W.Frag.In.keeps hK k, c1, c2, c3⟩
theorem obsS_eq {n : Nat} {fa : List He.Fa} {fn : List He.DefD} {ls : List (Str × List He.Dv)} {g : Addr → Option Obj} {s : Shared} (h : ∀ a, g a = s.heap.get? a) : obsS n fa fn ls g = (hookS n fa fn ls).obs s := by
  have e : g = s.heap.get? := funext h
  subst e; rfl
end Px
set_option Elab.async false
set_option linter.all false
set_option maxRecDepth 100000
set_option maxHeartbeats 4000000
namespace Px
open PySem PySem.Spec PyProof.Rows L2
/-! ### what can be shown -/
section
variable {K : PySem.W.Frag} {H H' : Hp}
mutual
theorem Dq.ex (e : Ex H H') : ∀ {v : V} {d : PyData}, Dq K H v d → Dq K H' v d
  | _, _, .non => .non
  | _, _, .bl b => .bl b
  | _, _, .int i => .int i
  | _, _, .str x => .str x
  | _, _, .lst h a => .lst (ex_sq e h) (DqAll.ex e a)
  | _, _, .tup h a => .tup (ex_sqt e h) (DqAll.ex e a)
  | _, _, .dK h a b => .dK (e _ _ h) (DqAll.ex e a) (DqAll.ex e b)
theorem DqAll.ex (e : Ex H H') : ∀ {vs : List V} {ds : List PyData}, DqAll K H vs ds → DqAll K H' vs ds
  | _, _, .nil => .nil
  | _, _, .cons a b => .cons (Dq.ex e a) (DqAll.ex e b)
end
end
structure Sw (d : PyData) (dep w : Nat) : Prop where
  sh : d.showable = true
  dp : d.depth ≤ dep
  lv : d.leavesShort 40 = true
  wt : d.weight ≤ w
structure SwA (ds : List PyData) (dep w : Nat) : Prop where
  sh : PyData.showableAll ds = true
  dp : PyData.depthAll ds ≤ dep
  lv : PyData.leavesShortAll 40 ds = true
  wt : PyData.weightAll ds ≤ w
structure SwK (ps : List (PyData × PyData)) (dep w : Nat) : Prop where
  sh : PyData.showableKv ps = true
  dp : PyData.depthKv ps ≤ dep
  lv : PyData.leavesShortKv 40 ps = true
  wt : PyData.weightKv ps ≤ w
theorem sw_non : Sw .none 0 0 := ⟨by simp [PyData.showable], by simp [PyData.depth], by simp [PyData.leavesShort], by simp [PyData.weight]⟩
theorem sw_bl {b : Bool} : Sw (.bool b) 0 0 := ⟨by simp [PyData.showable], by simp [PyData.depth], by simp [PyData.leavesShort], by simp [PyData.weight]⟩
theorem sw_int {i : Int} (h : i.natAbs < 10 ^ 38) : Sw (.int i) 0 130 := by
  have hl : i.natAbs ≠ 0 → i.natAbs.log2 < 129 := fun z => (Nat.log2_lt z).mpr (Nat.lt_trans h (by decide))
  have hl' : i.natAbs.log2 < 129 := by
    by_cases z : i.natAbs = 0
    · rw [z]; decide
    · exact hl z
  refine ⟨?_, by simp [PyData.depth], ?_, ?_⟩
  · simp only [PyData.showable, decide_eq_true_eq]; omega
  · simp only [PyData.leavesShort, decide_eq_true_eq]
    show (Str.ofString (toString i)).length ≤ 40
    rw [PySem.ofString_length]
    have := int_text_length_le10 (k := 38) (by decide) h
    omega
  · simp only [PyData.weight]
    split <;> omega
theorem sw_str {x : Str} (h : ∀ c ∈ x.cps.toList, c < 16 ^ 8) : Sw (.str x) 0 x.length := ⟨by simp [PyData.showable], by simp [PyData.depth], by simp only [PyData.leavesShort, List.all_eq_true, decide_eq_true_eq]; exact h, by simp [PyData.weight, Str.length]⟩
theorem sw_nil {dep : Nat} : SwA [] dep 0 := ⟨by simp [PyData.showableAll], by simp [PyData.depthAll], by simp [PyData.leavesShortAll], by simp [PyData.weightAll]⟩
theorem sw_cons {d : PyData} {ds : List PyData} {dep w1 w2 : Nat} (h : Sw d dep w1) (g : SwA ds dep w2) : SwA (d :: ds) dep (w1 + 1 + w2) :=
  ⟨by simp [PyData.showableAll, h.sh, g.sh], by have h1 := h.dp; have h2 := g.dp; simp only [PyData.depthAll]; omega, by simp [PyData.leavesShortAll, h.lv, g.lv], by have h1 := h.wt; have h2 := g.wt; simp only [PyData.weightAll]; omega⟩
theorem sw_list {ds : List PyData} {dep w : Nat} (h : SwA ds dep w) : Sw (.list ds) (dep + 1) w := ⟨by simp [PyData.showable, h.sh], by have := h.dp; simp only [PyData.depth]; omega, by simp [PyData.leavesShort, h.lv], by have := h.wt; simp only [PyData.weight]; omega⟩
theorem sw_tup {ds : List PyData} {dep w : Nat} (h : SwA ds dep w) : Sw (.tuple ds) (dep + 1) w := ⟨by simp [PyData.showable, h.sh], by have := h.dp; simp only [PyData.depth]; omega, by simp [PyData.leavesShort, h.lv], by have := h.wt; simp only [PyData.weight]; omega⟩
theorem swk_nil {dep : Nat} : SwK [] dep 0 := ⟨by simp [PyData.showableKv], by simp [PyData.depthKv], by simp [PyData.leavesShortKv], by simp [PyData.weightKv]⟩
theorem swk_cons {k v : PyData} {ps : List (PyData × PyData)} {dep w1 w2 w3 : Nat} (h : Sw k dep w1) (h' : Sw v dep w2) (g : SwK ps dep w3) : SwK ((k, v) :: ps) dep (w1 + w2 + 2 + w3) :=
  ⟨by simp [PyData.showableKv, h.sh, h'.sh, g.sh], by have h1 := h.dp; have h2 := g.dp; have h3 := h'.dp; simp only [PyData.depthKv]; omega, by simp [PyData.leavesShortKv, h.lv, h'.lv, g.lv], by have h1 := h.wt; have h2 := g.wt; have h3 := h'.wt; simp only [PyData.weightKv]; omega⟩
theorem sw_dict {ps : List (PyData × PyData)} {dep w : Nat} (h : SwK ps dep w) : Sw (.dict ps) (dep + 1) w := ⟨by simp [PyData.showable, h.sh], by have := h.dp; simp only [PyData.depth]; omega, by simp [PyData.leavesShort, h.lv], by have := h.wt; simp only [PyData.weight]; omega⟩
theorem Sw.more {d : PyData} {dep dep' w w' : Nat} (h : Sw d dep w) (h1 : dep ≤ dep') (h2 : w ≤ w') : Sw d dep' w' := ⟨h.sh, Nat.le_trans h.dp h1, h.lv, Nat.le_trans h.wt h2⟩
theorem SwA.more {d : List PyData} {dep dep' w w' : Nat} (h : SwA d dep w) (h1 : dep ≤ dep') (h2 : w ≤ w') : SwA d dep' w' := ⟨h.sh, Nat.le_trans h.dp h1, h.lv, Nat.le_trans h.wt h2⟩
theorem SwA.app {a b : List PyData} {dep w1 w2 : Nat} : SwA a dep w1 → SwA b dep w2 → SwA (a ++ b) dep (w1 + w2) := by
  intro h g
  induction a generalizing w1 with
  | nil => exact g.more (Nat.le_refl _) (Nat.le_add_left _ _)
  | cons x r ih =>
    have h1 := h.sh; have h2 := h.dp; have h3 := h.lv; have h4 := h.wt
    simp only [PyData.showableAll, Bool.and_eq_true] at h1
    simp only [PyData.depthAll] at h2
    simp only [PyData.leavesShortAll, Bool.and_eq_true] at h3
    simp only [PyData.weightAll] at h4
    have := ih (w1 := PyData.weightAll r) ⟨h1.2, by omega, h3.2, Nat.le_refl _⟩
    exact (sw_cons (⟨h1.1, by omega, h3.1, Nat.le_refl _⟩ : Sw x dep x.weight) this).more (Nat.le_refl _) (by omega)
theorem sw_fits {d : PyData} {dep w : Nat} (h : Sw d dep w) (h2 : w ≤ 350000) : d.shown.length ≤ sizeLine := by
  have h1 := PyData.shown_le 40 (by decide) d h.lv
  have h3 := h.wt
  rw [sizeLine_eq]
  omega
/-- it can be shown -/
def Shn (K : PySem.W.Frag) (H : Hp) (v : V) (d : PyData) : Prop := Dq K H v d ∧ d.showable = true ∧ d.depth ≤ 50 ∧ d.shown.length ≤ sizeLine
theorem Shn.ex {K : PySem.W.Frag} {H H' : Hp} {v : V} {d : PyData} (h : Shn K H v d) (e : Ex H H') : Shn K H' v d := ⟨h.1.ex e, h.2⟩
theorem shn {K : PySem.W.Frag} {H : Hp} {v : V} {d : PyData} {dep w : Nat} (h : Dq K H v d) (s : Sw d dep w) (h1 : dep ≤ 50 := by decide) (h2 : w ≤ 350000 := by omega) : Shn K H v d := ⟨h, s.sh, Nat.le_trans s.dp h1, sw_fits s h2⟩
theorem w_reprQ {K : PySem.W.Frag} {H : Hp} {v : V} {d : PyData} {Q : VK} (h : Shn K H v d) (q : Q (.str d.shown) H) : cReprQ K [v] H Q := ⟨v, d, rfl, h.1, h.2.1, h.2.2.1, h.2.2.2, q⟩
/-! ### small signs -/
def Sml (x : Str) : Prop := ∀ c ∈ x.cps.toList, c < 16 ^ 8
theorem sml_of (s : String) : Sml (Str.ofString s) := by
  intro c hc
  rw [Str.ofString_eq_toList] at hc
  simp only [List.mem_map] at hc
  obtain ⟨ch, _, rfl⟩ := hc
  have : ch.toNat < 1114112 := by
    have := ch.valid
    rcases this with h | h
    · have : ch.val.toNat < 55296 := h
      show ch.val.toNat < _
      omega
    · have : ch.val.toNat < 1114112 := h.2
      exact this
  omega
theorem sml_app {x y : Str} (h : Sml x) (g : Sml y) : Sml (x ++ y) := fun c hc => by
  have e : (x ++ y).cps = x.cps ++ y.cps := rfl
  rw [e, Array.toList_append, List.mem_append] at hc
  exact hc.elim (h c) (g c)
theorem sml_from : ∀ (ts : List Str) (k : Nat) (acc : Str), Sml acc → (∀ t ∈ ts, Sml t) → Sml (textFrom k acc ts)
  | [], _, acc, h, _ => h
  | t :: ts, k, acc, h, g => sml_from ts (k + 1) _ (sml_app (sml_app h (sml_of _)) (g t List.mem_cons_self)) fun u hu => g u (List.mem_cons_of_mem _ hu)
theorem sml_ints : ∀ (ns : List Int), ∀ t ∈ PyData.shownAll (ns.map PyData.int), Sml t
  | [], t, h => by simp [PyData.shownAll] at h
  | n :: ns, t, h => by
    simp only [List.map_cons, PyData.shownAll, List.mem_cons] at h
    rcases h with rfl | h
    · exact sml_of _
    · exact sml_ints ns t h
theorem sml_list (ns : List Int) : Sml (PyData.list (ns.map PyData.int)).shown := by
  simp only [PyData.shown]
  exact sml_app (sml_from _ _ _ (sml_of _) (sml_ints ns)) (sml_of _)
theorem swa_ints : ∀ (ns : List Int), (∀ n ∈ ns, n.natAbs < 10 ^ 38) → SwA (ns.map PyData.int) 0 (131 * ns.length)
  | [], _ => sw_nil
  | n :: ns, h => (sw_cons (sw_int (h n List.mem_cons_self)) (swa_ints ns fun m hm => h m (List.mem_cons_of_mem _ hm))).more (Nat.le_refl _) (by rw [List.length_cons]; omega)
theorem dqa_ints {K : PySem.W.Frag} {H : Hp} : ∀ (ns : List Int), DqAll K H (ns.map V.int) (ns.map PyData.int)
  | [] => .nil
  | n :: ns => .cons (.int n) (dqa_ints ns)
/-! ### dicts of numbers -/
def kD : Key → PyData
  | .inl i => .int i
  | .inr x => .str x
theorem dq_key {K : PySem.W.Frag} {H : Hp} (k : Key) : Dq K H (kV k) (kD k) := by cases k <;> constructor
theorem merge_all {Pk : Key → Prop} {Pv : V → Prop} : ∀ (l acc : List (Key × V)), (∀ p ∈ acc, Pk p.1 ∧ Pv p.2) → (∀ p ∈ l, Pk p.1 ∧ Pv p.2) → ∀ p ∈ mergeK acc l, Pk p.1 ∧ Pv p.2
  | [], acc, h, _ => h
  | q :: l, acc, h, g => by
    refine merge_all l (putK acc q.1 q.2) (fun p hp => ?_) fun p hp => g p (List.mem_cons_of_mem _ hp)
    have hq := g q List.mem_cons_self
    unfold putK at hp
    split at hp
    · obtain ⟨r, hr, rfl⟩ := List.mem_map.mp hp
      split
      · exact ⟨(h r hr).1, hq.2⟩
      · exact h r hr
    · rcases List.mem_append.mp hp with hp | hp
      · exact h p hp
      · rw [List.mem_singleton.mp hp]; exact hq
theorem enK_all {Pv : V → Prop} : ∀ (xs : List V) (j : Nat), (∀ x ∈ xs, Pv x) → j + xs.length ≤ 100000 → ∀ p ∈ enK j xs, (∃ i : Int, p.1 = .inl i ∧ i.natAbs < 10 ^ 38) ∧ Pv p.2
  | [], _, _, _, p, h => by simp [enK] at h
  | x :: xs, j, h, hl, p, hp => by
    rw [List.length_cons] at hl
    rw [enK, List.mem_cons] at hp
    rcases hp with rfl | hp
    · exact ⟨⟨_, rfl, by omega⟩, h x List.mem_cons_self⟩
    · exact enK_all xs (j + 1) (fun y hy => h y (List.mem_cons_of_mem _ hy)) (by omega) p hp
theorem shn_dict {K : PySem.W.Frag} {H : Hp} {a : Addr} {ns : List Int} (ha : H a = some (.dK (mergeK [] (enK 0 (ns.map V.int))))) (hn : ∀ n ∈ ns, n.natAbs < 10 ^ 38) (hl : ns.length ≤ 1000) : ∃ d, Shn K H (.ref a) d := by
  have hk : ∀ p ∈ mergeK [] (enK 0 (ns.map V.int)), (∃ i : Int, p.1 = .inl i ∧ i.natAbs < 10 ^ 38) ∧ ∃ i : Int, p.2 = .int i ∧ i.natAbs < 10 ^ 38 := merge_all (Pk := fun k => ∃ i : Int, k = .inl i ∧ i.natAbs < 10 ^ 38) (Pv := fun v => ∃ i : Int, v = .int i ∧ i.natAbs < 10 ^ 38) (enK 0 (ns.map V.int)) [] (fun p hp => (List.not_mem_nil hp).elim) (enK_all (Pv := fun v => ∃ i : Int, v = .int i ∧ i.natAbs < 10 ^ 38) (ns.map V.int) 0 (fun x hx => by
    obtain ⟨i, hi, rfl⟩ := List.mem_map.mp hx
    exact ⟨i, rfl, hn i hi⟩) (by rw [List.length_map]; omega))
  have hlen : (mergeK [] (enK 0 (ns.map V.int))).length ≤ 1000 := by
    refine Nat.le_trans (length_mergeK _ []) ?_
    rw [List.length_nil, Nat.zero_add, enK_len, List.length_map]; exact hl
  generalize mergeK [] (enK 0 (ns.map V.int)) = kvs at ha hk hlen
  have key : ∀ l : List (Key × V), (∀ p ∈ l, (∃ i : Int, p.1 = .inl i ∧ i.natAbs < 10 ^ 38) ∧ ∃ i : Int, p.2 = .int i ∧ i.natAbs < 10 ^ 38) → ∃ ps : List (PyData × PyData), DqAll K H (l.map fun p => kV p.1) (ps.map (·.1)) ∧ DqAll K H (l.map (·.2)) (ps.map (·.2)) ∧ SwK ps 0 (262 * l.length) := by
    intro l
    induction l with
    | nil => exact fun _ => ⟨[], .nil, .nil, swk_nil⟩
    | cons p l ih =>
      intro h
      obtain ⟨ps, h1, h2, h3⟩ := ih fun q hq => h q (List.mem_cons_of_mem _ hq)
      obtain ⟨⟨i, e1, b1⟩, ⟨j, e2, b2⟩⟩ := h p List.mem_cons_self
      refine ⟨(.int i, .int j) :: ps, ?_, ?_, ⟨(swk_cons (sw_int b1) (sw_int b2) h3).sh, (swk_cons (sw_int b1) (sw_int b2) h3).dp, (swk_cons (sw_int b1) (sw_int b2) h3).lv, ?_⟩⟩
      · rw [List.map_cons, List.map_cons, e1]
        exact .cons (.int i) h1
      · rw [List.map_cons, List.map_cons, e2]
        exact .cons (.int j) h2
      · have := (swk_cons (sw_int b1) (sw_int b2) h3).wt
        rw [List.length_cons]
        omega
  obtain ⟨ps, h1, h2, h3⟩ := key kvs hk
  exact ⟨.dict ps, shn (.dK ha h1 h2) (sw_dict h3)⟩
end Px
set_option Elab.async false
set_option linter.all false
set_option maxRecDepth 100000
namespace Px
open PySem L2
/-! ### what the top has left, with the program's exceptions and with tuples of the module's own -/
abbrev AlXT : Type := AlX × Bool
def obsXT (n : Nat) (fa : List He.Fa) (fn : List He.DefD) (ls ts : List (Str × List He.Dv)) (g : Addr → Option Obj) : AlXT :=
  (obsX n fa fn ls g, ts.all fun q => He.tupB (He.frG g (He.asD g n)) q.1 q.2)
def hookXT (n : Nat) (fa : List He.Fa) (fn : List He.DefD) (ls ts : List (Str × List He.Dv)) : PySem.W.Hook where
  α := AlXT
  obs := fun s => obsXT n fa fn ls ts s.heap.get?
  val := fun _ => (((He.valD fn, true), true), true)
  says := fun _ h => ∃ K : PySem.W.Frag, K.In h ∧ He.SaysD fa fn K ∧ (ls.all fun q => He.lstB K q.1 q.2) = true ∧ errB K = true ∧ (ts.all fun q => He.tupB K q.1 q.2) = true
  of := fun _ _ e => ⟨_, He.frG_in, congrArg (fun z : AlXT => z.1.1.1) e, congrArg (fun z : AlXT => z.1.1.2) e, congrArg (fun z : AlXT => z.1.2) e, congrArg (fun z : AlXT => z.2) e⟩
  keeps := fun _ _ _ ⟨K, hK, c1, c2, c3, c4⟩ k => ⟨K, PySem.W.Frag.In.keeps hK k, c1, c2, c3, c4⟩
theorem obsXT_eq {n : Nat} {fa : List He.Fa} {fn : List He.DefD} {ls ts : List (Str × List He.Dv)} {g : Addr → Option Obj} {s : Shared} (h : ∀ a, g a = s.heap.get? a) : obsXT n fa fn ls ts g = (hookXT n fa fn ls ts).obs s := by
  have e : g = s.heap.get? := funext h
  subst e; rfl
theorem tup_fact {ts : List (Str × List He.Dv)} {K : PySem.W.Frag} (h : (ts.all fun q => He.tupB K q.1 q.2) = true) (i : Nat) {x : Str} {vs : List He.Dv} (e : ts[i]? = some (x, vs)) : He.tupB K x vs = true := List.all_eq_true.mp h (x, vs) (List.mem_of_getElem? e)
end Px
set_option Elab.async false
set_option linter.all false
set_option maxRecDepth 100000
set_option maxHeartbeats 4000000
namespace Px
open PySem PySem.Spec PyProof.Rows L2
/-! ### several clauses, the exception without a name -/
def four5 : List Str := ["NoPrimes", "NoPlace", "NoNumber", "NoCommand"]
def exmB (K : PySem.W.Frag) : Bool := four5.all fun x => four5.all fun y => decide (PySem.W.exmOne K (.ref (He.ga K x)) (.ref (He.ga K y)) = some (decide (x = y)))
def Exms (K : PySem.W.Frag) : Prop := ∀ x ∈ four5, ∀ y ∈ four5, PySem.W.exmOne K (.ref (He.ga K x)) (.ref (He.ga K y)) = some (decide (x = y))
theorem exmB_ok {K : PySem.W.Frag} (h : exmB K = true) : Exms K := fun x hx y hy => of_decide_eq_true (List.all_eq_true.mp (List.all_eq_true.mp h x hx) y hy)
/-- the four that may be raised, where the fifth is not there -/
def errB4 (K : PySem.W.Frag) : Bool := four5.all fun x => (He.Fa.exc x).ok K
def Errs4 (K : PySem.W.Frag) : Prop := ∀ x ∈ four5, ExM K (He.ga K x)
theorem errB4_ok {K : PySem.W.Frag} (h : errB4 K = true) : Errs4 K := fun x hx => by
  obtain ⟨a, b, c, d⟩ := He.exc_ok (List.all_eq_true.mp h x hx)
  exact ⟨a, b, c, d⟩
abbrev AlXTM : Type := AlXT × Bool
def obsXTM (n : Nat) (fa : List He.Fa) (fn : List He.DefD) (ls ts : List (Str × List He.Dv)) (g : Addr → Option Obj) : AlXTM :=
  (((obsL n fa fn ls g, errB4 (He.frG g (He.asD g n))), ts.all fun q => He.tupB (He.frG g (He.asD g n)) q.1 q.2), exmB (He.frG g (He.asD g n)))
def hookXTM (n : Nat) (fa : List He.Fa) (fn : List He.DefD) (ls ts : List (Str × List He.Dv)) : PySem.W.Hook where
  α := AlXTM
  obs := fun s => obsXTM n fa fn ls ts s.heap.get?
  val := fun _ => ((((He.valD fn, true), true), true), true)
  says := fun _ h => ∃ K : PySem.W.Frag, K.In h ∧ He.SaysD fa fn K ∧ (ls.all fun q => He.lstB K q.1 q.2) = true ∧ errB4 K = true ∧ (ts.all fun q => He.tupB K q.1 q.2) = true ∧ exmB K = true
  of := fun _ _ e => ⟨_, He.frG_in, congrArg (fun z : AlXTM => z.1.1.1.1) e, congrArg (fun z : AlXTM => z.1.1.1.2) e, congrArg (fun z : AlXTM => z.1.1.2) e, congrArg (fun z : AlXTM => z.1.2) e, congrArg (fun z : AlXTM => z.2) e⟩
  keeps := fun _ _ _ ⟨K, hK, c1, c2, c3, c4, c5⟩ k => ⟨K, PySem.W.Frag.In.keeps hK k, c1, c2, c3, c4, c5⟩
theorem obsXTM_eq {n : Nat} {fa : List He.Fa} {fn : List He.DefD} {ls ts : List (Str × List He.Dv)} {g : Addr → Option Obj} {s : Shared} (h : ∀ a, g a = s.heap.get? a) : obsXTM n fa fn ls ts g = (hookXTM n fa fn ls ts).obs s := by
  have e : g = s.heap.get? := funext h
  subst e; rfl
def tTryM (K : PySem.W.Frag) (l : List (Value × (Addr → Value → Option Addr → TS))) (tb : WX → TS) : TS := fun D σ H => tb (wMany K (fun _ _ _ _ => False) D l) D σ H
theorem ps_trym {X : Cx} {body : List Stmt} {h₀ : ExceptHandler} {hds : List ExceptHandler} {l : List (Value × (Addr → Value → Option Addr → TS))} {pos : Pos} {tb : WX → TS} (hs : X.stack = X.env :: X.outer) (hf : X.env.frame = some X.env.locals)
    (hb : ∀ (W : WX) (pn : List (Addr × Obj)) (xe : Value → Shared → Prop), Takes (X.tr pn xe) W → PassesOwn (model X.prog X.w) X.A X.env xe → PSs (X.tr pn xe) body (tb W)) (hh : HdsOk X (h₀ :: hds) l) :
    PS X (.Try body (h₀ :: hds) [] [] pos) (tTryM X.K l tb) := ps_try_many hs hf takes_none5 hb hh
theorem w_trym {K : PySem.W.Frag} {l : List (Value × (Addr → Value → Option Addr → TS))} {tb : WX → TS} {D : Ends} {σ : L2.St} {H : Hp} (h : tb (wMany K (fun _ _ _ _ => False) D l) D σ H) : tTryM K l tb D σ H := h
section
variable {K : PySem.W.Frag} {x y : Str} {ts : Addr → Value → Option Addr → TS} {l : List (Value × (Addr → Value → Option Addr → TS))} {D : Ends} {σ : L2.St} {H : Hp} {d : Option Addr}
theorem w_many_yes (hM : Exms K) (hx : x ∈ four5) (k : ∀ a, H a = none → ts a (.ref (He.ga K x)) d D σ H) : wMany K (fun _ _ _ _ => False) D ((.ref (He.ga K x), ts) :: l) (.ref (He.ga K x)) d σ H :=
  ⟨true, (hM x hx x hx).trans (by rw [decide_eq_true rfl]), fun _ => k, fun z => nomatch z⟩
theorem w_many_no (hM : Exms K) (hx : x ∈ four5) (hy : y ∈ four5) (hne : x ≠ y) (k : wMany K (fun _ _ _ _ => False) D l (.ref (He.ga K x)) d σ H) : wMany K (fun _ _ _ _ => False) D ((.ref (He.ga K y), ts) :: l) (.ref (He.ga K x)) d σ H :=
  ⟨false, (hM x hx y hy).trans (by rw [decide_eq_false hne]), (fun z => nomatch z), fun _ => k⟩
end
end Px
set_option Elab.async false
set_option linter.all false
set_option maxRecDepth 100000
set_option maxHeartbeats 4000000
namespace Px
open PySem PySem.Spec PyProof.Rows L2
/-! ### dicts with tuples as keys, beside defs that forget: kept as what stands at their place alone, thawed where they are used -/
def dtOk (P : Program) (w : World) (a : Addr) (xs : List (List Key × Addr × Value)) (h : Heap) : Prop :=
  xs.length ≤ sizeLine ∧ (a == sysModules) = false ∧ ∃ o es ep, h.get? a = some o ∧ o.ExactDict ∧ o.data = .dict es ep ∧ es.toList = xs.map (entryOfKey (tupleKind (mixKind P w))) ∧ (xs.map (·.1)).Nodup
def dtH (P : Program) (w : World) (a : Addr) (xs : List (List Key × Addr × Value)) : HO := .ext (dtOk P w a xs)
theorem kt_len {H : Hp} {kvs : List (List Key × V)} {xs : List (List Key × Addr × Value)} (h : KT H kvs xs) : kvs.length = xs.length := by
  induction h with
  | nil => rfl
  | cons _ _ ih => simp [ih]
theorem kt_mono {H H' : Hp} {kvs : List (List Key × V)} {xs : List (List Key × Addr × Value)} (h : KT H kvs xs) (k : ∀ b us, H b = some (.tup us) → H' b = some (.tup us)) : KT H' kvs xs := Paired.mapP h fun _ _ z => ⟨z.1, k _ _ z.2.1, z.2.2⟩
theorem kt_ex {H H' : Hp} {kvs : List (List Key × V)} {xs : List (List Key × Addr × Value)} (h : KT H kvs xs) (e : Ex H H') : KT H' kvs xs := kt_mono h fun b us q => e _ _ q
section
variable {X : Cx} {pins : List (Addr × Obj)} {σ : L2.St} {H : Hp} {s : Shared} {a : Addr}
/-- what stands at a is told in another way -/
theorem inv_swap {u u' : HO} (I : Inv X pins σ H s) (ha : H a = some u) (n1 : ∀ xs, u ≠ .tup xs) (n2 : ∀ o v, u ≠ .frz o v) (n3 : ∀ ps, u ≠ .tbl ps) (n4 : ∀ y, u ≠ .own y) (ok : ObjOk X.prog X.w (upd H a u') s.heap a u') : Inv X pins σ (upd H a u') s := by
  have ne : ∀ b, H b = none → b ≠ a := fun b e z => by rw [z, ha] at e; cases e
  have tn : ∀ b us, H b = some (.tup us) → b ≠ a := fun b us e z => by rw [z, ha] at e; exact n1 us (Option.some.inj e)
  have on : ∀ b y, H b = some (.own y) → b ≠ a := fun b y e z => by rw [z, ha] at e; exact n4 y (Option.some.inj e)
  refine ⟨I.ok, I.os, I.bare, ⟨I.base.keep, I.base.slot, fun b o e n hx => ?_, I.base.there, fun b us e => ?_, fun b o v e => ?_, fun b ps e => ?_⟩, I.loc, I.cell, ?_, fun x c e => ?_, fun p hp' => ?_, fun b o e => ?_, I.len⟩
  · have := I.base.free b o e n hx
    rw [upd_ne (ne b this)]; exact this
  · have := I.base.tups b us e
    rw [upd_ne (tn b us this)]; exact this
  · have := I.base.frzs b o v e
    rw [upd_ne (fun z => by rw [z, ha] at this; exact n2 o v (Option.some.inj this))]; exact this
  · obtain ⟨m, this⟩ := I.base.tbls b ps e
    exact ⟨m, by rw [upd_ne (fun z => by rw [z, ha] at this; exact n3 _ (Option.some.inj this))]; exact this⟩
  · rw [upd_ne (ne _ I.free)]; exact I.free
  · rw [upd_ne (ne _ (I.freeC x c e))]; exact I.freeC x c e
  · obtain ⟨h1, h2, h3⟩ := I.pin p hp'
    exact ⟨h1, by rw [upd_ne (ne _ h2)]; exact h2, h3⟩
  · by_cases z : b = a
    · subst z
      rw [upd_same] at e
      cases e
      exact ok
    · rw [upd_ne z] at e
      exact (I.hok b o e).stay (fun c w' hc q => q) (fun y q => by rw [upd_ne (on _ _ q)]; exact q) fun y z q => by rw [upd_ne (tn _ _ q)]; exact q
theorem inv_thaw {kvs : List (List Key × V)} {xs : List (List Key × Addr × Value)} (I : Inv X pins σ H s) (ha : H a = some (dtH X.prog X.w a xs)) (hk : KT H kvs xs) : Inv X pins σ (upd H a (.dT kvs)) s := by
  refine inv_swap I ha (fun _ z => by cases z) (fun _ _ z => by cases z) (fun _ z => by cases z) (fun _ z => by cases z) ?_
  obtain ⟨h1, h2, o, es, ep, h3, h4, h5, h6, h7⟩ := (I.hok a _ ha).1
  refine ⟨by rw [kt_len hk]; exact h1, h2, xs, ?_, o, es, ep, h3, h4, h5, h6, h7⟩
  exact Paired.mapP hk fun p q z => ⟨z.1, by rw [upd_ne (fun y => by have := z.2.1; rw [y, ha] at this; cases this)]; exact z.2.1, z.2.2⟩
theorem inv_freeze {kvs : List (List Key × V)} (I : Inv X pins σ H s) (ha : H a = some (.dT kvs)) : ∃ xs, KT H kvs xs ∧ Inv X pins σ (upd H a (dtH X.prog X.w a xs)) s := by
  obtain ⟨h1, h2, xs, hk, o, es, ep, h3, h4, h5, h6, h7⟩ := I.hok a _ ha
  have hk' : KT H kvs xs := hk
  refine ⟨xs, hk', inv_swap I ha (fun _ z => by cases z) (fun _ _ z => by cases z) (fun _ z => by cases z) (fun _ z => by cases z) ?_⟩
  refine ⟨⟨by rw [← kt_len hk']; exact h1, h2, o, es, ep, h3, h4, h5, h6, h7⟩, ⟨o, h3⟩, fun g1 g2 f k => ?_⟩
  obtain ⟨f1, f2, o', es', ep', f3, f4⟩ := f
  exact ⟨f1, f2, o', es', ep', k _ f3, f4⟩
end
/-- what is wished of the heap where the dict at a is told as kept again -/
def Fz (P : Program) (w : World) (a : Addr) (k : Hp → Prop) (H' : Hp) : Prop := ∃ kvs, H' a = some (.dT kvs) ∧ ∀ xs, KT H' kvs xs → k (upd H' a (dtH P w a xs))
def tThaw (P : Program) (w : World) (t : TS) : TS := fun D σ H => ∃ (a : Addr) (xs : List (List Key × Addr × Value)) (kvs : List (List Key × V)), H a = some (dtH P w a xs) ∧ KT H kvs xs ∧
  t { nx := fun σ' H' => Fz P w a (D.nx σ') H', rt := fun v H' => Fz P w a (D.rt v) H', bk := fun σ' H' => Fz P w a (D.bk σ') H', ct := fun σ' H' => Fz P w a (D.ct σ') H' } σ (upd H a (.dT kvs))
def tFrz (P : Program) (w : World) (t : TS) : TS := fun D σ H => t { nx := fun σ' H' => ∃ a, Fz P w a (D.nx σ') H', rt := fun _ _ => False, bk := fun _ _ => False, ct := fun _ _ => False } σ H
section
variable {X : Cx} {st : Stmt} {t : TS}
theorem fz_run {pins : List (Addr × Obj)} {σ : L2.St} {H : Hp} {s : Shared} {a : Addr} {k : Hp → Prop} (I : Inv X pins σ H s) (f : Fz X.prog X.w a k H) : ∃ H', Inv X pins σ H' s ∧ k H' := by
  obtain ⟨kvs, ha, hk⟩ := f
  obtain ⟨xs, h1, J⟩ := inv_freeze I ha
  exact ⟨_, J, hk xs h1⟩
theorem ps_thaw (h : PS X st t) : PS X st (tThaw X.prog X.w t) := by
  refine ⟨fun pins s σ H D I q => ?_⟩
  obtain ⟨a, xs, kvs, ha, hk, q⟩ := q
  refine wpAny_mono (h.run pins s σ _ _ (inv_thaw I ha hk) q) (fun f s1 hsp => ?_) (fun _ _ z => z)
  cases f with
  | next =>
    obtain ⟨σ', H', J, q⟩ := hsp
    obtain ⟨H2, J2, q2⟩ := fz_run J q
    exact ⟨σ', H2, J2, q2⟩
  | brk =>
    obtain ⟨σ', H', J, q⟩ := hsp
    obtain ⟨H2, J2, q2⟩ := fz_run J q
    exact ⟨σ', H2, J2, q2⟩
  | cont =>
    obtain ⟨σ', H', J, q⟩ := hsp
    obtain ⟨H2, J2, q2⟩ := fz_run J q
    exact ⟨σ', H2, J2, q2⟩
  | ret u =>
    obtain ⟨v, σ', H', J, r, q⟩ := hsp
    obtain ⟨H2, J2, q2⟩ := fz_run J q
    exact ⟨v, σ', H2, J2, r, q2⟩
theorem ps_frz (h : PS X st t) : PS X st (tFrz X.prog X.w t) := by
  refine ⟨fun pins s σ H D I q => ?_⟩
  refine wpAny_mono (h.run pins s σ _ _ I q) (fun f s1 hsp => ?_) (fun _ _ z => z)
  cases f with
  | next =>
    obtain ⟨σ', H', J, a, q⟩ := hsp
    obtain ⟨H2, J2, q2⟩ := fz_run J q
    exact ⟨σ', H2, J2, q2⟩
  | brk => obtain ⟨_, _, _, z⟩ := hsp; exact z.elim
  | cont => obtain ⟨_, _, _, z⟩ := hsp; exact z.elim
  | ret u => obtain ⟨_, _, _, _, _, z⟩ := hsp; exact z.elim
end
end Px
set_option Elab.async false
set_option linter.all false
set_option maxRecDepth 100000
set_option maxHeartbeats 4000000
namespace Px
open PySem PySem.Spec PySem.Calls PyProof.Rows L2
/-! ### except (A, B): one of two classes, the exception without a name -/
theorem flying_keeps {B : Heap} {l : List Env} {e : Addr} {Z : Obj → Prop} {h h' : Heap} (f : HandSPX.FlyingZ B l e Z h) (k : ∀ b o, h.get? b = some o → h'.get? b = some o) : HandSPX.FlyingZ B l e Z h' := by
  obtain ⟨f1, f2, f3, oe, vs, T, oT, ts, a1, a2, a3, a4, a5, a6, a7, a8⟩ := f
  exact ⟨fun b o q => k _ _ (f1 b o q), f2, Heap.FunFrames.of_keeps (fun b o q _ => ⟨o, k b o q, rfl⟩) f3, oe, vs, T, oT, ts, k _ _ a1, a2, a3, a4, a5, a6, k _ _ a7, a8⟩
def w2X (K : PySem.W.Frag) (c1 c2 : Value) (ts : TS) (D : Ends) : WX := fun cls d σ H => PySem.W.exmAny K cls [c1, c2] = some true ∧ ts D σ H
def tTry2 (K : PySem.W.Frag) (c1 c2 : Value) (tb : WX → TS) (ts : TS) : TS := fun D σ H => tb (w2X K c1 c2 ts D) D σ H
section
variable {X : Cx} {x1 x2 : Str} {c1 c2 : Value} {body suite : List Stmt} {b₀ : Stmt} {p1 p2 tpos pos pos' : Pos} {kk : Nat} {tb : WX → TS} {ts : TS}
theorem ps_try2 (hs : X.stack = X.env :: X.outer) (hf : X.env.frame = some X.env.locals) (hc1 : Names X x1 c1) (hc2 : Names X x2 c2)
    (hb : ∀ (W : WX) (pn : List (Addr × Obj)) (xe : Value → Shared → Prop), Takes (X.tr pn xe) W → PassesOwn (model X.prog X.w) X.A X.env xe → PSs (X.tr pn xe) body (tb W))
    (hsu : ∀ (a : Addr) (oe : Obj) (cls : Value) (d : Option Addr) (pn : List (Addr × Obj)), Zc cls d oe → (∃ vs, oe.data = .fields vs) → PSs (X.suite a ((a, oe) :: pn)) (b₀ :: suite) ts) :
    PS X (.Try body [.ExceptHandler (some (.Tuple [.Name x1 p1, .Name x2 p2] kk tpos)) none (b₀ :: suite) pos'] [] [] pos) (tTry2 X.K c1 c2 tb ts) := by
  refine ⟨fun pins s σ H D I h => ?_⟩
  have ok := I.ok
  have hfr : X.A.frames = some (X.env :: X.outer) := by rw [ok.frames, hs]
  refine wpAny_Try_except ?_
  refine wpAny_mono ((hb (w2X X.K c1 c2 ts D) (X.pn ++ pins) (fun e s₁ => wpAny (model X.prog X.w) X.A (noteFrame e X.env) (fun _ s₂ => wpAny (model X.prog X.w) X.A (setFlight e none) (fun _ s₃ =>
    wpAny (model X.prog X.w) X.A (handleBy e X.env [.ExceptHandler (some (.Tuple [.Name x1 p1, .Name x2 p2] kk tpos)) none (b₀ :: suite) pos']) (SP X pins D) X.xe s₃) X.xe s₂) X.xe s₁) (fun u s' xx => ?_) PassesOwn.looking).run [] s σ H D (I.toTry _) h) (fun f s1 hsp => ?_) (fun e s1 he => he)
  · obtain ⟨a, B, sI, pins', σ', H', cls, d, rfl, J', nb, up, sky, na, os, ag, hb1, hyes⟩ := xx
    have J : Inv X pins σ' H' sI := J'.ofTry ok
    have sky' : Sky B (X.env :: X.outer) a (Zc cls d) X.env.locals s'.heap := by rw [← hs]; exact sky
    show wpAny (model X.prog X.w) X.A (noteFrame (.ref a) X.env) _ _ _
    refine Sky.land Zc.steady hfr hf sky' fun h3 fl3 up3 => ?_
    have J3 : Inv X pins σ' H' { s' with heap := h3 } := J.landed nb fl3.1 (up.trans up3) os ag
    obtain ⟨oe3, vs3, he3, hz3, hd3⟩ := fl3.there
    have notFr : ∀ {h : Heap} {o : Obj} {vs : Array Value}, h.FunFrames B (X.env :: X.outer) → h.get? a = some o → o.data = .fields vs → a ∉ frs (X.env :: X.outer) := fun {h o vs} ff e dd hm => by
      obtain ⟨_, o', e', hnf⟩ := ff.mem hm
      rw [e] at e'; cases e'
      exact hnf _ dd
    have nfr := notFr fl3.2.2.1 he3 hd3
    have nL : a ≠ X.env.locals := fun z => nfr (List.mem_filterMap.mpr ⟨X.env, List.mem_cons_self, by rw [hf, z]⟩)
    have nF : a ∉ X.fs := fun hm => by
      obtain ⟨e, he, q⟩ := List.mem_filterMap.mp hm
      exact nfr (List.mem_filterMap.mpr ⟨e, List.mem_cons_of_mem _ he, q⟩)
    have S3 := J3.suite he3 hd3 na nL nF
    refine wpAny_handleBy_cons (codeAny_handlers_test ?_) (by intro q; cases q)
    have LT : PySem.W.Looks (model X.prog X.w) h3 (typeOf (.ref a)) cls := fun A Q E s k q => wpAny_typeOf_ref (k _ _ he3) (by rw [hz3.1]; exact q)
    have test : ∀ {x : Str} {c : Value} {np : Pos} {Q : Value → Shared → Prop} {E : Value → Shared → Prop}, Names X x c → Q c { s' with heap := h3 } → wpAny (model X.prog X.w) (X.A.mark (some (.ref a))) (eval (.Name x np) X.env) Q E { s' with heap := h3 } := fun {x c np Q E} hc q => by
      obtain ⟨hg, hdbg, hm | ⟨hm, hv, hnn⟩⟩ := hc
      · exact ld_glob (X := X.suite a ((a, oe3) :: (X.pn ++ pins))) S3 hg hm q hdbg
      · exact ld_blt (X := X.suite a ((a, oe3) :: (X.pn ++ pins))) S3 hg hm hv q hnn hdbg
    refine wpAny_Tuple ?_
    refine wpAny_items_cons (test hc1 ?_)
    refine wpAny_items_cons (test hc2 ?_)
    refine wpAny_items_nil ⟨by size_fits, ?_⟩
    have kp : ∀ q o, h3.get? q = some o → (h3.push { cls := .type "tuple", data := .seq [c1, c2].toArray }).get? q = some o := fun _ _ z => Heap.get?_push_of_some _ z
    have fl3p := flying_keeps fl3 kp
    have up3p := up3.trans (Heap.UpToSlots.of_keeps kp)
    have LM := PySem.W.exm_tup2 (M := model X.prog X.w) ((J3.kIn).keeps kp) (LT.keeps kp) (Heap.get?_push_size h3 rfl) hb1
    refine LM.here ?_
    refine codeAny_handlers_suite ?_
    refine HandSPX.lands_againZ fl3p fun h4 fl4 up4 => ?_
    have J4 : Inv X pins σ' H' { s' with heap := h4 } := J.landed nb fl4.1 ((up.trans up3p).trans up4) os ag
    obtain ⟨oe4, vs4, he4, hz4, hd4⟩ := fl4.there
    have S4 := J4.suite he4 hd4 na nL nF
    refine wpAny_mono ((hsu a oe4 cls d (X.pn ++ pins) hz4 ⟨_, hd4⟩).run [] _ _ H' _ S4 hyes) (fun f s6 hsp => ?_) (fun _ _ z => False.elim z)
    cases f with
    | next =>
      obtain ⟨σ6, H6, S6, q6⟩ := hsp
      exact ⟨_, _, S6.unsuite ok, q6⟩
    | brk =>
      obtain ⟨σ6, H6, S6, q6⟩ := hsp
      exact ⟨_, _, S6.unsuite ok, q6⟩
    | cont =>
      obtain ⟨σ6, H6, S6, q6⟩ := hsp
      exact ⟨_, _, S6.unsuite ok, q6⟩
    | ret u =>
      obtain ⟨v6, σ6, H6, S6, r6, q6⟩ := hsp
      exact ⟨_, _, _, S6.unsuite ok, r6, q6⟩
  · cases f with
    | next =>
      obtain ⟨σ', H', J', q⟩ := hsp
      exact wpAny_execs_nil ⟨σ', H', J'.ofTry ok, q⟩
    | brk =>
      obtain ⟨σ', H', J', q⟩ := hsp
      exact ⟨σ', H', J'.ofTry ok, q⟩
    | cont =>
      obtain ⟨σ', H', J', q⟩ := hsp
      exact ⟨σ', H', J'.ofTry ok, q⟩
    | ret u =>
      obtain ⟨v, σ', H', J', r, q⟩ := hsp
      exact ⟨v, σ', H', J'.ofTry ok, r, q⟩
end
theorem w_try2 {K : PySem.W.Frag} {c1 c2 : Value} {tb : WX → TS} {ts : TS} {D : Ends} {σ : L2.St} {H : Hp} (h : tb (w2X K c1 c2 ts D) D σ H) : tTry2 K c1 c2 tb ts D σ H := h
end Px
set_option Elab.async false
set_option linter.all false
set_option maxRecDepth 100000
set_option maxHeartbeats 4000000
namespace Px
open PySem L2
/-! ### methods that may raise -/
structure MfnX (P : Program) (w : World) (K : PySem.W.Frag) (mg : Str → Option Value) (base : Heap) (C : Addr) (m : Str) (k : Nat) (ps : List Str) (sp : Sp) : Prop where
  ex : ∃ (f : Addr) (fd : FuncData), FnOk P w K mg base (L2.CX P w) k f fd ps sp ∧ Meth K C m f ∧ Binds K fd ps []
structure IfnX (P : Program) (w : World) (K : PySem.W.Frag) (mg : Str → Option Value) (base : Heap) (C : Addr) (k : Nat) (ps : List Str) (sp : Sp) : Prop where
  ex : ∃ (f : Addr) (fd : FuncData), FnOk P w K mg base (L2.CX P w) k f fd ps sp ∧ L2.Mk K C f ∧ Binds K fd ps []
def tMethS (C : Addr) (m : Str) (sp : Sp) (E : L2.St → XK) (ta : TE) (t : TA) : TE := fun σ H Q => ta σ H fun x H1 => ∃ a dx fs, x = .ref a ∧ H1 a = some (.ins C dx fs) ∧ fs.lookup m = none ∧ t σ H1 fun vs H2 => sp (x :: vs) H2 Q (E σ)
theorem passE0 {X : Cx} : Passes (L2.CX X.prog X.w) X E0 := fun _ _ _ _ _ _ _ ⟨_, _, _, _, _, _, _, _, _, _, _, _, z⟩ => z.elim
section
variable {X : Cx} {C : Addr} {m x : Str} {k : Nat} {ps : List Str} {sp : Sp} {o e : Expr} {es : List Expr} {ta : TE} {t : TA} {apos pos p : Pos} {W : WX}
theorem pe_mthX {pl : Sem Bool} (F : MfnX X.prog X.w X.K X.mg X.base C m k ps sp) (c : Cls X.K C) (hr : Room k X.A) (tk : Takes X W) (he : PE X o ta) (ha : PA X (e :: es) t)
    (hst : starEach (e :: es) X.env = (false, eval e X.env) :: starEach es X.env := by rfl) (hpl : (backTo pos (starEach es X.env)).any (·.1) = false := by rfl)
    (ht : eval (.Call (.Attribute o m apos) (e :: es) [] pos) X.env = (do
      let ov ← eval o X.env
      standAt apos.atName
      let (f, first) ← holding [ov] (getMethod ov m pl)
      callWith pos f first (backTo pos (starEach (e :: es) X.env)) (backToKw pos (keywordEach [] X.env))) := by rfl) :
    PE X (.Call (.Attribute o m apos) (e :: es) [] pos) (tMethS C m sp (WE W) ta t) := by
  obtain ⟨f, fd, F1, M, b⟩ := F.ex
  refine ⟨fun pins s σ H Q I h => ?_⟩
  refine PySem.W.methodCall_KW (pl := pl) (thn (he.run pins s σ H _ I h) fun u s1 ⟨x, H1, I1, rx, a, dx, fs, ex, ea, l, q⟩ => ?_) ht
  subst ex
  obtain rfl : u = Value.ref a := rx
  refine getmeth_ok I1 ea c M l ?_
  refine PySem.W.callWith_K (first := [.ref a]) (h₀ := X.base) I.ok.mod.kin M.kp (thn (ha.run pos pins s1 σ H1 _ I1 q) fun us s2 ⟨vs, H2, I2, r, q2⟩ => ⟨I2.kIn, ?_⟩) hst hpl
  exact run_fnS (us := .ref a :: us) (vs := .ref a :: vs) F1 hr b (passAt tk σ) I2 (.cons rfl r) q2
theorem pe_mthX0 {pl : Sem Bool} (F : MfnX X.prog X.w X.K X.mg X.base C m k ps sp) (c : Cls X.K C) (hr : Room k X.A) (he : PE X o ta) (ha : PA X (e :: es) t)
    (hst : starEach (e :: es) X.env = (false, eval e X.env) :: starEach es X.env := by rfl) (hpl : (backTo pos (starEach es X.env)).any (·.1) = false := by rfl)
    (ht : eval (.Call (.Attribute o m apos) (e :: es) [] pos) X.env = (do
      let ov ← eval o X.env
      standAt apos.atName
      let (f, first) ← holding [ov] (getMethod ov m pl)
      callWith pos f first (backTo pos (starEach (e :: es) X.env)) (backToKw pos (keywordEach [] X.env))) := by rfl) :
    PE X (.Call (.Attribute o m apos) (e :: es) [] pos) (tMeth C m sp [] E0 ta t) := by
  obtain ⟨f, fd, F1, M, b⟩ := F.ex
  exact pe_meth he c M F1 hr b .nil passE0 ha hst hpl ht
theorem pe_mkX0 (F : IfnX X.prog X.w X.K X.mg X.base C k ps sp) (hr : Room (k + 1) X.A) (hm : X.mg x = some (.ref C)) (ha : PA X (e :: es) t) (hg : Gl X x := by rfl)
    (hdb : (x == ("__debug__" : Str)) = false := by decide) (he : starEach (e :: es) X.env = (false, eval e X.env) :: starEach es X.env := by rfl) (hpl : (backTo pos (starEach es X.env)).any (·.1) = false := by rfl) :
    PE X (.Call (.Name x p) (e :: es) [] pos) (tMake C sp [] E0 t) := by
  obtain ⟨f, fd, F1, M, b⟩ := F.ex
  exact pe_make M F1 hr hg hm b .nil passE0 ha hdb he hpl
theorem w_mthS {K : PySem.W.Frag} {σ : L2.St} {H : Hp} {E : L2.St → XK} {Q : VK} {x dx : Addr} {fs : List (Str × V)} (h : Ev ta σ H (.ref x)) (e : H x = some (.ins C dx fs)) (l : fs.lookup m = none) (k : t σ H fun vs H2 => sp (.ref x :: vs) H2 Q (E σ)) : tMethS C m sp E ta t σ H Q := h _ ⟨x, dx, fs, rfl, e, l, k⟩
end
end Px
set_option Elab.async false
set_option linter.all false
set_option maxRecDepth 100000
set_option maxHeartbeats 4000000
namespace Px
open PySem PySem.Spec PyProof.Rows L2
/-! ### a new thing of one's own class, whose __init__ may raise -/
def tMakeS (C : Addr) (sp : Sp) (E : L2.St → XK) (t : TA) : TE := fun σ H Q => t σ H fun vs H1 => ∀ x dx, H1 x = none → H1 dx = none → dx ≠ x → sp (.ref x :: vs) (upd (upd H1 dx (.own x)) x (.ins C dx [])) (fun v H2 => v = .non ∧ Q (.ref x) H2) (E σ)
section
variable {X : Cx} {C f : Addr} {m x : Str} {k : Nat} {fd : FuncData} {ps : List Str} {sp : Sp} {o e : Expr} {es : List Expr} {ta : TE} {t : TA} {apos pos p : Pos} {W : WX}
theorem run_makeS {pins : List (Addr × Obj)} {σ : L2.St} {H : Hp} {s : Shared} {Q : VK} {us : List Value} {vs : List V} {E : L2.St → XK} {CX : CXT} (M : L2.Mk X.K C f) (F : FnOk X.prog X.w X.K X.mg X.base CX k f fd ps sp) (hr : Room (k + 1) X.A) (hb : Binds X.K fd ps [])
    (hx : PassesAt CX X σ (E σ)) (I : Inv X pins σ H s) (r : Vals vs us)
    (h : ∀ x dx, H x = none → H dx = none → dx ≠ x → sp (.ref x :: vs) (upd (upd H dx (.own x)) x (.ins C dx [])) (fun v H2 => v = .non ∧ Q (.ref x) H2) (E σ)) :
    wpAny (model X.prog X.w) X.A (call (.ref C) us) (EP X pins σ Q) X.xe s := by
  have hq := h (s.heap.objs.size + 1) s.heap.objs.size (I.hok.fresh (Nat.le_succ _)) (I.hok.fresh (Nat.le_refl _)) (Nat.ne_of_lt (Nat.lt_succ_self _))
  have I2 := Inv.made (C := C) I
  have r2 : Vals (V.ref (s.heap.objs.size + 1) :: vs) (Value.ref (s.heap.objs.size + 1) :: us) := .cons rfl r
  have hl : (Value.ref (s.heap.objs.size + 1) :: us).length = ps.length := by
    have e := r2.length
    rw [F.len _ _ _ _ hq] at e
    exact e.symm
  have b := hb _ (Value.ref (s.heap.objs.size + 1) :: us) I2.kIn (by rw [List.append_nil]; exact hl)
  rw [List.append_nil] at b
  refine wpAny_call (make_map (f := f) I.kIn M.makes M.init (beq_iff_eq.mp M.fn) (codeAny_mono (F.run _ X.stack _ _ ⟨Value.ref (s.heap.objs.size + 1) :: us, []⟩ (Value.ref (s.heap.objs.size + 1) :: us) _ _ (E σ) (hr.make C us [])
    (I2.env0.make C us []) b r2 hq) fun r s' hq' => ?_))
  cases r with
  | error e => exact hx pins _ _ e s' I2 hq'
  | ok fl =>
    cases fl with
    | ret u =>
      obtain ⟨v, H', I3, rv, ev, q3⟩ := I2.after hq'
      subst ev
      exact ⟨rv, ⟨V.ref (s.heap.objs.size + 1), H', I3, rfl, q3⟩⟩
    | next => exact False.elim hq'
    | brk => exact False.elim hq'
    | cont => exact False.elim hq'
theorem pe_mkX (F : IfnX X.prog X.w X.K X.mg X.base C k ps sp) (hr : Room (k + 1) X.A) (tk : Takes X W) (hm : X.mg x = some (.ref C)) (ha : PA X (e :: es) t) (hg : Gl X x := by rfl)
    (hdb : (x == ("__debug__" : Str)) = false := by decide) (he : starEach (e :: es) X.env = (false, eval e X.env) :: starEach es X.env := by rfl) (hpl : (backTo pos (starEach es X.env)).any (·.1) = false := by rfl) :
    PE X (.Call (.Name x p) (e :: es) [] pos) (tMakeS C sp (WE W) t) := by
  obtain ⟨f, fd, F1, M, b⟩ := F.ex
  refine ⟨fun pins s σ H Q I h => ?_⟩
  refine wpAny_Call_Name_kw (ld_glob I hg hm ?_ hdb)
  refine PySem.W.callWith_K (h₀ := X.base) I.ok.mod.kin M.kp (thn (ha.run pos pins s σ H _ I h) fun us s1 ⟨vs, H1, I1, r, q⟩ => ⟨I1.kIn, ?_⟩) he hpl
  exact run_makeS (E := WE W) M F1 hr b (passAt tk σ) I1 r q
end
/-! ### the hook with exceptions and sys.modules -/
abbrev AlXS : Type := AlS × Bool
def obsXS (n : Nat) (fa : List He.Fa) (fn : List He.DefD) (ls : List (Str × List He.Dv)) (g : Addr → Option Obj) : AlXS :=
  (obsS n fa fn ls g, errB (He.frG g (sysModules :: He.asD g n)))
def hookXS (n : Nat) (fa : List He.Fa) (fn : List He.DefD) (ls : List (Str × List He.Dv)) : PySem.W.Hook where
  α := AlXS
  obs := fun s => obsXS n fa fn ls s.heap.get?
  val := fun _ => (((He.valD fn, true), true), true)
  says := fun _ h => ∃ K : PySem.W.Frag, K.In h ∧ He.SaysD fa fn K ∧ (ls.all fun q => He.lstB K q.1 q.2) = true ∧ errB K = true ∧ sysB K = true
  of := fun _ _ e => ⟨_, He.frG_in, congrArg (fun z : AlXS => z.1.1.1) e, congrArg (fun z : AlXS => z.1.1.2) e, congrArg (fun z : AlXS => z.2) e, congrArg (fun z : AlXS => z.1.2) e⟩
  keeps := fun _ _ _ ⟨K, hK, c1, c2, c3, c4⟩ k => ⟨K, PySem.W.Frag.In.keeps hK k, c1, c2, c3, c4⟩
theorem obsXS_eq {n : Nat} {fa : List He.Fa} {fn : List He.DefD} {ls : List (Str × List He.Dv)} {g : Addr → Option Obj} {s : Shared} (h : ∀ a, g a = s.heap.get? a) : obsXS n fa fn ls g = (hookXS n fa fn ls).obs s := by
  have e : g = s.heap.get? := funext h
  subst e; rfl
end Px
set_option Elab.async false
set_option linter.all false
set_option maxRecDepth 100000
set_option maxHeartbeats 4000000
namespace Px
open PySem PySem.Spec PyProof.Rows L2
/-! ### two of the own classes, each by itself or both in one clause; repr beside -/
def two5 : List Str := ["NoPrimes", "NoPlace"]
def exmB2 (K : PySem.W.Frag) : Bool := two5.all fun x => two5.all fun y => decide (PySem.W.exmOne K (.ref (He.ga K x)) (.ref (He.ga K y)) = some (decide (x = y)))
def Exms2 (K : PySem.W.Frag) : Prop := ∀ x ∈ two5, ∀ y ∈ two5, PySem.W.exmOne K (.ref (He.ga K x)) (.ref (He.ga K y)) = some (decide (x = y))
theorem exmB2_ok {K : PySem.W.Frag} (h : exmB2 K = true) : Exms2 K := fun x hx y hy => of_decide_eq_true (List.all_eq_true.mp (List.all_eq_true.mp h x hx) y hy)
def errB2 (K : PySem.W.Frag) : Bool := two5.all fun x => (He.Fa.exc x).ok K
def Errs2 (K : PySem.W.Frag) : Prop := ∀ x ∈ two5, ExM K (He.ga K x)
theorem errB2_ok {K : PySem.W.Frag} (h : errB2 K = true) : Errs2 K := fun x hx => by
  obtain ⟨a, b, c, d⟩ := He.exc_ok (List.all_eq_true.mp h x hx)
  exact ⟨a, b, c, d⟩
abbrev AlXSM : Type := (AlS × Bool) × Bool
def obsXSM (n : Nat) (fa : List He.Fa) (fn : List He.DefD) (ls : List (Str × List He.Dv)) (g : Addr → Option Obj) : AlXSM :=
  ((obsS n fa fn ls g, errB2 (He.frG g (sysModules :: He.asD g n))), exmB2 (He.frG g (sysModules :: He.asD g n)))
def hookXSM (n : Nat) (fa : List He.Fa) (fn : List He.DefD) (ls : List (Str × List He.Dv)) : PySem.W.Hook where
  α := AlXSM
  obs := fun s => obsXSM n fa fn ls s.heap.get?
  val := fun _ => ((((He.valD fn, true), true), true), true)
  says := fun _ h => ∃ K : PySem.W.Frag, K.In h ∧ He.SaysD fa fn K ∧ (ls.all fun q => He.lstB K q.1 q.2) = true ∧ errB2 K = true ∧ exmB2 K = true ∧ sysB K = true
  of := fun _ _ e => ⟨_, He.frG_in, congrArg (fun z : AlXSM => z.1.1.1.1) e, congrArg (fun z : AlXSM => z.1.1.1.2) e, congrArg (fun z : AlXSM => z.1.2) e, congrArg (fun z : AlXSM => z.2) e, congrArg (fun z : AlXSM => z.1.1.2) e⟩
  keeps := fun _ _ _ ⟨K, hK, c1, c2, c3, c4, c5⟩ k => ⟨K, PySem.W.Frag.In.keeps hK k, c1, c2, c3, c4, c5⟩
theorem obsXSM_eq {n : Nat} {fa : List He.Fa} {fn : List He.DefD} {ls : List (Str × List He.Dv)} {g : Addr → Option Obj} {s : Shared} (h : ∀ a, g a = s.heap.get? a) : obsXSM n fa fn ls g = (hookXSM n fa fn ls).obs s := by
  have e : g = s.heap.get? := funext h
  subst e; rfl
theorem exm_two {K : PySem.W.Frag} (hM : Exms2 K) {x : Str} (hx : x ∈ two5) : PySem.W.exmAny K (.ref (He.ga K x)) [.ref (He.ga K "NoPlace"), .ref (He.ga K "NoPrimes")] = some true := by
  have h1 := hM x hx "NoPlace" (by decide)
  have h2 := hM x hx "NoPrimes" (by decide)
  rcases List.mem_cons.mp hx with rfl | hx'
  · simp only [PySem.W.exmAny, h1, h2]; decide
  · rcases List.mem_cons.mp hx' with rfl | hx'
    · simp only [PySem.W.exmAny, h1, h2]; decide
    · exact (List.not_mem_nil hx').elim
end Px
set_option Elab.async false
set_option linter.all false
set_option maxRecDepth 100000
set_option maxHeartbeats 4000000
namespace Px
open PySem L2 MA
local macro_rules | `(tactic| bv_omega) => `(tactic| first | assumption | omega | exact cm (by omega) | exact cd (by omega) | exact cp (by omega) | exact trivial)
local macro_rules | `(tactic| array_get_dec) => `(tactic| first
  | assumption
  | exact sq_up
  | exact Own.sqi (by assumption) 0 (by rfl)
  | exact Own.sqi (by assumption) 1 (by rfl)
  | exact Own.sqi (by assumption) 2 (by rfl)
  | exact Own.sqi (by assumption) 3 (by rfl)
  | exact Own.sqi (by assumption) 4 (by rfl)
  | exact Own.sq (by assumption) (by assumption)
  | exact sq_new (by assumption) (by assumption))
local macro_rules | `(tactic| clean_wf) => `(tactic| first
  | with_reducible exact ev_c
  | (with_reducible apply ev_v') <;> rfl
  | (with_reducible apply ev_add) <;> clean_wf
  | (with_reducible apply ev_sub) <;> clean_wf
  | (with_reducible apply ev_mul) <;> clean_wf
  | (with_reducible apply ev_mod) <;> clean_wf
  | (with_reducible apply ev_div) <;> clean_wf
  | (with_reducible apply ev_pow) <;> clean_wf
  | (with_reducible apply ev_neg) <;> clean_wf
  | (with_reducible apply ev_lt) <;> clean_wf
  | (with_reducible apply ev_le) <;> clean_wf
  | (with_reducible apply ev_gt) <;> clean_wf
  | (with_reducible apply ev_ge) <;> clean_wf
  | (with_reducible apply ev_eqi) <;> clean_wf
  | (with_reducible apply ev_nei) <;> clean_wf
  | (with_reducible apply ev_len) <;> clean_wf
  | (with_reducible apply ev_ixL) <;> clean_wf
  | (with_reducible apply ev_min) <;> clean_wf
  | (with_reducible apply ev_max) <;> clean_wf
  | (with_reducible apply ev_abs) <;> clean_wf
  | (with_reducible apply ev_intB) <;> clean_wf
  | (with_reducible apply ea_1) <;> clean_wf
  | (with_reducible apply ea_2) <;> clean_wf
  | (with_reducible apply ea_3) <;> clean_wf
  | with_reducible exact ea_nil
  | (with_reducible apply ea_cons) <;> clean_wf
  | with_reducible exact el_nil
  | (with_reducible apply ep_lt) <;> clean_wf
  | (with_reducible apply ep_le) <;> clean_wf
  | (with_reducible apply ep_gt) <;> clean_wf
  | (with_reducible apply ep_ge) <;> clean_wf
  | (with_reducible apply ep_eqi) <;> clean_wf
  | (with_reducible apply ep_nei) <;> clean_wf
  | (with_reducible apply ep_not) <;> clean_wf
  | ((with_reducible apply ep_and) <;> first | (intro _; clean_wf; done) | clean_wf)
  | ((with_reducible apply ep_or) <;> first | (intro _; clean_wf; done) | clean_wf)
  | (with_reducible apply et_t) <;> clean_wf
  | (with_reducible apply eo_is) <;> clean_wf
  | with_reducible exact eo_no
  | array_get_dec
  | bv_omega
  | rfl
  | skip)
local macro_rules | `(tactic| symm_saturate) => `(tactic| first
  | ((with_reducible apply q_set); (focus (clean_wf; done)))
  | ((with_reducible apply s_set); (focus (clean_wf; done)))
  | ((with_reducible apply q_aug (hx := rfl)); (focus (clean_wf; done)))
  | ((with_reducible apply s_aug (hx := rfl)); (focus (clean_wf; done)))
  | ((with_reducible apply q_augC (hx := rfl)); (focus (clean_wf; done)))
  | ((with_reducible apply s_augC (hx := rfl)); (focus (clean_wf; done))))
local macro_rules | `(tactic| subst_eqs) => `(tactic| repeat' (first
  | with_reducible apply w_c
  | ((with_reducible apply w_v'); (focus rfl))
  | with_reducible apply w_op
  | with_reducible apply w_cb
  | with_reducible apply w_cons
  | with_reducible apply w_nil
  | with_reducible apply r_add
  | with_reducible apply r_sub
  | ((with_reducible apply r_mul); (focus (bv_omega; done)))
  | ((with_reducible apply r_div); (focus (bv_omega; done)))
  | ((with_reducible apply r_mod); (focus (bv_omega; done)))
  | ((with_reducible apply r_pow); (focus (bv_omega; done)))
  | with_reducible apply r_lt
  | with_reducible apply r_le
  | with_reducible apply r_gt
  | with_reducible apply r_ge
  | with_reducible apply r_min
  | with_reducible apply r_max
  | with_reducible apply r_intB
  | ((with_reducible apply r_len); (focus (array_get_dec; done)))
  | with_reducible apply w_callW
  | with_reducible apply q_setW
  | with_reducible apply s_setW
  | with_reducible apply s_retW))

/-! ### lists that are one's own, all that is new is plain -/
structure OF (H0 B : Hp) (L : List (Addr × List V)) (H : Hp) : Prop where
  o : Own B L H
  f : ∀ b u, H0 b = none → H b = some u → fresh u
section
variable {K : PySem.W.Frag} {H0 B H : Hp} {L : List (Addr × List V)} {p : Addr} {xs ys : List V} {u : HO}
theorem of_upd (h : ∀ b u, H0 b = none → H b = some u → fresh u) (fu : fresh u) : ∀ b w, H0 b = none → upd H p u b = some w → fresh w := fun b w h0 h1 => by
  by_cases z : b = p
  · rw [z, upd_same] at h1; cases h1; exact fu
  · rw [upd_ne z] at h1; exact h b w h0 h1
theorem OF.new (c : OF H0 B L H) (hp : H p = none) : OF H0 B ((p, xs) :: L) (upd H p (.lst xs)) := ⟨c.o.new hp, of_upd c.f trivial⟩
theorem OF.tmp (c : OF H0 B L H) (hp : H p = none) : OF H0 B L (upd H p (.lst xs)) := ⟨c.o.tmp hp, of_upd c.f trivial⟩
theorem OF.tupT (c : OF H0 B L H) (hp : H p = none) : OF H0 B L (upd H p (.tup xs)) := ⟨c.o.tup hp, of_upd c.f trivial⟩
theorem OF.base (c : OF H0 B L H) (hp : H p = none) (fu : fresh u) : OF H0 (upd B p u) L (upd H p u) := ⟨c.o.newB hp (nod_upd c.o.nod (fresh_flat fu)), of_upd c.f fu⟩
theorem OF.mut (c : OF H0 B L H) (i : Nat) (h : L[i]? = some (p, xs)) : OF H0 B (L.set i (p, ys)) (upd H p (.lst ys)) := ⟨c.o.mut i h, of_upd c.f trivial⟩
theorem OF.sub {L' : List (Addr × List V)} (c : OF H0 B L H) (s : L'.Sublist L) : OF H0 B L' H := ⟨c.o.sub s, c.f⟩
theorem OF.draw {d s m : Int} {Q : VK} {E : XK} (c : OF H0 B L H) (i : Nat) (h : L[i]? = some (p, hd d s)) (ok : HdOk d s) (m0 : 0 < m ∧ m < 2 ^ 200)
    (k : ∀ (r d' s' : Int) (H2 : Hp), 0 ≤ r ∧ r < m → HdOk d' s' → OF H0 B (L.set i (p, hd d' s')) H2 → Q (.int r) H2) : sp_law_draw K ([.ref p, .int m] ++ []) H Q E :=
  ⟨c.o.nod, p, d, s, m, rfl, c.o.atI i h, ok, m0.1, m0.2, fun r d' s' h0 h1 ok' => k r d' s' _ ⟨h0, h1⟩ ok' (c.mut i h)⟩
/-- what becomes of one's own is the base -/
theorem OF.give (c : OF H0 B ((p, xs) :: L) H) : ∃ B', Ex B B' ∧ OF H0 B' L H ∧ B' p = some (.lst xs) := by
  have hB : B p = none := c.o.offI 0 rfl
  have hH : H p = some (.lst xs) := c.o.atI 0 rfl
  refine ⟨upd B p (.lst xs), ex_new hB, ⟨⟨c.o.nod, fun b u hb => ?_, fun q hq => ?_, (List.nodup_cons.mp c.o.dis).2, fun q hq => c.o.has q (List.mem_cons_of_mem _ hq)⟩, c.f⟩, upd_same⟩
  · by_cases z : b = p
    · rw [z, upd_same] at hb; rw [z, hH]; exact hb
    · rw [upd_ne z] at hb; exact c.o.ex b u hb
  · have ne : q.1 ≠ p := fun z => (List.nodup_cons.mp c.o.dis).1 (List.mem_map.mpr ⟨q, hq, z⟩)
    rw [upd_ne ne]
    exact c.o.off q (List.mem_cons_of_mem _ hq)
theorem fg_full {H H' : Hp} {a : Addr} {xs ys : List V} [n0 : Nod H] (n : Nod H') (ha : H a = some (.lst xs)) (ha' : H' a = some (.lst ys)) (e : Ex (del H a) H') (f : ∀ b u, H b = none → H' b = some u → fresh u) : Fg H H' H' where
  sub := fun _ _ h => h
  old := fun _ _ _ => rfl
  own := fun b x h => e b _ (by rw [del_ne (fun z => by rw [z, ha] at h; cases h)]; exact h)
  ins := fun b C dx fs h => by
    cases hb : H b with
    | none => exact (f b _ hb h).elim
    | some u =>
      by_cases z : b = a
      · rw [z, ha'] at h; cases h
      · have := e b u (by rw [del_ne z]; exact hb)
        rw [h] at this; cases this
        exact ⟨fs, rfl⟩
  frz := fun b o u h => by
    cases hb : H b with
    | none => exact (f b _ hb h).elim
    | some w =>
      by_cases z : b = a
      · rw [z, ha'] at h; cases h
      · have := e b w (by rw [del_ne z]; exact hb)
        rw [h] at this; cases this
        rfl
  nod := n.nod
end
section
variable {K : PySem.W.Frag} {B : Hp} {a : Addr}
theorem nop_pr {n : Nat} (h : NoP K B (.int (n : Int))) : n ∉ PR := fun hn => by
  rcases h with ⟨t, ty, k⟩ | ⟨c, e⟩ | ⟨i, e, hi⟩
  · rcases ty with ty | ⟨b, e, _⟩
    · cases ty with
      | base h =>
        cases h with
        | int i => revert k; decide +kernel
    · cases e
  · cases e
  · cases e
    exact hi n hn rfl
theorem elt_int (i : Int) : (∃ n ∈ PR, V.int i = .int (n : Int)) ∨ NoP K B (.int i) := by
  by_cases h : ∃ n ∈ PR, i = (n : Int)
  · obtain ⟨n, hn, rfl⟩ := h
    exact .inl ⟨n, hn, rfl⟩
  · exact .inr (pn_int fun n hn e => h ⟨n, hn, e⟩)
theorem elt_zv {l : List Nat} : ∀ x ∈ zv l, (∃ n ∈ PR, x = V.int (n : Int)) ∨ NoP K B x := fun x hx => by
  obtain ⟨i, _, rfl⟩ := mem_int hx
  exact elt_int i
theorem flat_zv {l : List Nat} : ∀ x ∈ zv l, flatB x = true ∨ ∃ c, x = V.ref c := fun x hx => by
  obtain ⟨i, _, rfl⟩ := mem_int hx
  exact .inl rfl
theorem zv_inj {l m : List Nat} (h : zv l = zv m) : l = m := by
  have := congrArg (List.map fun v => match v with | V.int i => i.toNat | _ => 0) h
  simp only [zl, List.map_map] at this
  have h2 : ∀ l : List Nat, l.map ((fun v => match v with | V.int i => i.toNat | _ => 0) ∘ V.int ∘ fun (x : Nat) => (x : Int)) = l := fun l => by
    rw [show ((fun v => match v with | V.int i => i.toNat | _ => 0) ∘ V.int ∘ fun (x : Nat) => (x : Int)) = id from funext fun x => by simp]; simp
  rw [h2, h2] at this
  exact this
theorem nr_dup {A C : List Nat} {x : Nat} : ¬ (Rw (A ++ x :: x :: C) ∧ A ++ x :: x :: C ≠ []) := fun ⟨w, _⟩ => by
  have := (List.pairwise_append.mp w.up).2.1
  have := (List.pairwise_cons.mp this).1 x (by simp)
  omega
theorem nr_in {l : List Nat} {n : Nat} (h : n ∈ l) (hn : n ∉ PR) : ¬ (Rw l ∧ l ≠ []) := fun ⟨w, _⟩ => hn (w.mem n h)
theorem nr_swap {l : List Nat} {i j x y : Nat} (hi : l[i]? = some x) (hj : l[j]? = some y) (hij : i < j) (hxy : y ≤ x) : ¬ (Rw l ∧ l ≠ []) := fun ⟨w, _⟩ => by
  have := get_lt w.up hi hj hij
  omega
end
section
variable {K : PySem.W.Frag} {H0 B H : Hp} {L : List (Addr × List V)} {σ : L2.St} {Q : VK}
theorem OF.b {p : Addr} {u : HO} (c : OF H0 B L H) (h : B p = some u) : H p = some u := c.o.ex _ _ h
theorem OF.noB {p : Addr} (c : OF H0 B L H) (h : H p = none) : B p = none := ex_none c.o.ex h
theorem w_splice {t1 t3 t4 te : TE} {r : Addr} {row : List Nat} {k k' : Nat} {x : V} (c : OF H0 B L H) (hr : B r = some (.lst (zv row))) (hl : row.length ≤ 6) (e1 : ∀ H', Ev t1 σ H' (.ref r)) (e3 : ∀ H', Ev t3 σ H' (.int (k : Int))) (e4 : ∀ H', Ev t4 σ H' (.int (k' : Int)))
    (ex : ∀ H', H' r = some (.lst (zv row)) → Ev te σ H' x) (q : ∀ p H2, B p = none → OF H0 (upd B p (.lst (zv (row.take k) ++ [x] ++ zv (row.drop k')))) L H2 → Q (.ref p) H2) :
    tOp rCat (tOp rCat (tSl (rSlL K) t1 tNoPart (tPart t3)) (tLst (tCons te tNil))) (tSl (rSlL K) t1 (tPart t4) tNoPart) σ H Q := by
  refine w_op (w_op (w_evL (el_sl (e1 _) eo_no (eo_is (e3 _)) (sq_at (c.b hr))) fun p1 hp1 => ?_))
  rw [cut_toN]
  replace c := c.new (xs := zv (row.take k)) hp1
  refine w_evL (el_lst (ea_1 (ex _ (c.b hr))) (by simp)) fun p2 hp2 => ?_
  replace c := c.new (xs := [x]) hp2
  refine ⟨p1, p2, _, _, rfl, rfl, c.o.atI 1 rfl, c.o.atI 0 rfl, by rw [zv_len, sizeLine_eq]; simp; omega, fun p3 hp3 => ?_⟩
  replace c := c.new (xs := zv (row.take k) ++ [x]) hp3
  dsimp only
  refine w_evL (el_sl (e1 _) (eo_is (e4 _)) eo_no (sq_at (c.b hr))) fun p4 hp4 => ?_
  rw [cut_fromN]
  replace c := c.new (xs := zv (row.drop k')) hp4
  refine ⟨p3, p4, _, _, rfl, rfl, c.o.atI 1 rfl, c.o.atI 0 rfl, by rw [List.length_append, zv_len, zv_len, sizeLine_eq]; simp; omega, fun p5 hp5 => ?_⟩
  have hb := c.noB hp5
  exact q p5 _ hb ((c.base (u := .lst (zv (row.take k) ++ [x] ++ zv (row.drop k'))) hp5 trivial).sub (((((List.Sublist.refl _).cons _).cons _).cons _).cons _))
end
theorem own_del {B H : Hp} {L : List (Addr × List V)} {h : Addr} {xs : List V} (o : Own B L H) (i : Nat) (hi : L[i]? = some (h, xs)) : Ex B (del H h) := fun b u hb => by rw [del_ne (o.neB i hi hb)]; exact o.ex b u hb
theorem zv_rev (l : List Nat) : (zv l).reverse = zv l.reverse := by simp
theorem zv_setP (l : List Nat) (i x : Nat) : (zv l).set i (.int (x : Int)) = zv (l.set i x) := by simp [zl, List.map_set]
theorem nr_rev {row : List Nat} (h : row ≠ []) : ¬ (Rw (row.reverse ++ row) ∧ row.reverse ++ row ≠ []) := by
  obtain ⟨a, t, rfl⟩ := List.exists_cons_of_ne_nil h
  rw [List.reverse_cons, List.append_assoc]
  exact nr_dup
theorem Own.low {B B2 H : Hp} {L : List (Addr × List V)} (o : Own B2 L H) (e : Ex B B2) : Own B L H := ⟨o.nod, ex_trans e o.ex, fun p hp => ex_none e (o.off p hp), o.dis, o.has⟩
theorem Own.give {B H : Hp} {L : List (Addr × List V)} {p : Addr} {xs : List V} (o : Own B ((p, xs) :: L) H) : ∃ B', Ex B B' ∧ Own B' L H ∧ B' p = some (.lst xs) := by
  obtain ⟨B', e, c, h⟩ := (⟨o, fun b u h0 h1 => by rw [h0] at h1; cases h1⟩ : OF H B ((p, xs) :: L) H).give
  exact ⟨B', e, c.o, h⟩
end Px
set_option Elab.async false
set_option linter.all false
set_option maxRecDepth 100000
set_option maxHeartbeats 4000000
namespace Px
open PySem L2 MA
local macro_rules | `(tactic| bv_omega) => `(tactic| first | assumption | omega | exact cm (by omega) | exact cd (by omega) | exact cp (by omega) | exact trivial)
local macro_rules | `(tactic| array_get_dec) => `(tactic| first
  | assumption
  | exact sq_up
  | exact Own.sqi (by assumption) 0 (by rfl)
  | exact Own.sqi (by assumption) 1 (by rfl)
  | exact Own.sqi (by assumption) 2 (by rfl)
  | exact Own.sqi (by assumption) 3 (by rfl)
  | exact Own.sqi (by assumption) 4 (by rfl)
  | exact Own.sq (by assumption) (by assumption)
  | exact sq_new (by assumption) (by assumption))
local macro_rules | `(tactic| clean_wf) => `(tactic| first
  | with_reducible exact ev_c
  | (with_reducible apply ev_v') <;> rfl
  | (with_reducible apply ev_add) <;> clean_wf
  | (with_reducible apply ev_sub) <;> clean_wf
  | (with_reducible apply ev_mul) <;> clean_wf
  | (with_reducible apply ev_mod) <;> clean_wf
  | (with_reducible apply ev_div) <;> clean_wf
  | (with_reducible apply ev_pow) <;> clean_wf
  | (with_reducible apply ev_neg) <;> clean_wf
  | (with_reducible apply ev_lt) <;> clean_wf
  | (with_reducible apply ev_le) <;> clean_wf
  | (with_reducible apply ev_gt) <;> clean_wf
  | (with_reducible apply ev_ge) <;> clean_wf
  | (with_reducible apply ev_eqi) <;> clean_wf
  | (with_reducible apply ev_nei) <;> clean_wf
  | (with_reducible apply ev_len) <;> clean_wf
  | (with_reducible apply ev_ixL) <;> clean_wf
  | (with_reducible apply ev_min) <;> clean_wf
  | (with_reducible apply ev_max) <;> clean_wf
  | (with_reducible apply ev_abs) <;> clean_wf
  | (with_reducible apply ev_intB) <;> clean_wf
  | (with_reducible apply ea_1) <;> clean_wf
  | (with_reducible apply ea_2) <;> clean_wf
  | (with_reducible apply ea_3) <;> clean_wf
  | with_reducible exact ea_nil
  | (with_reducible apply ea_cons) <;> clean_wf
  | with_reducible exact el_nil
  | (with_reducible apply ep_lt) <;> clean_wf
  | (with_reducible apply ep_le) <;> clean_wf
  | (with_reducible apply ep_gt) <;> clean_wf
  | (with_reducible apply ep_ge) <;> clean_wf
  | (with_reducible apply ep_eqi) <;> clean_wf
  | (with_reducible apply ep_nei) <;> clean_wf
  | (with_reducible apply ep_not) <;> clean_wf
  | ((with_reducible apply ep_and) <;> first | (intro _; clean_wf; done) | clean_wf)
  | ((with_reducible apply ep_or) <;> first | (intro _; clean_wf; done) | clean_wf)
  | (with_reducible apply et_t) <;> clean_wf
  | (with_reducible apply eo_is) <;> clean_wf
  | with_reducible exact eo_no
  | array_get_dec
  | bv_omega
  | rfl
  | skip)
local macro_rules | `(tactic| symm_saturate) => `(tactic| first
  | ((with_reducible apply q_set); (focus (clean_wf; done)))
  | ((with_reducible apply s_set); (focus (clean_wf; done)))
  | ((with_reducible apply q_aug (hx := rfl)); (focus (clean_wf; done)))
  | ((with_reducible apply s_aug (hx := rfl)); (focus (clean_wf; done)))
  | ((with_reducible apply q_augC (hx := rfl)); (focus (clean_wf; done)))
  | ((with_reducible apply s_augC (hx := rfl)); (focus (clean_wf; done))))
local macro_rules | `(tactic| subst_eqs) => `(tactic| repeat' (first
  | with_reducible apply w_c
  | ((with_reducible apply w_v'); (focus rfl))
  | with_reducible apply w_op
  | with_reducible apply w_cb
  | with_reducible apply w_cons
  | with_reducible apply w_nil
  | with_reducible apply r_add
  | with_reducible apply r_sub
  | ((with_reducible apply r_mul); (focus (bv_omega; done)))
  | ((with_reducible apply r_div); (focus (bv_omega; done)))
  | ((with_reducible apply r_mod); (focus (bv_omega; done)))
  | ((with_reducible apply r_pow); (focus (bv_omega; done)))
  | with_reducible apply r_lt
  | with_reducible apply r_le
  | with_reducible apply r_gt
  | with_reducible apply r_ge
  | with_reducible apply r_min
  | with_reducible apply r_max
  | with_reducible apply r_intB
  | ((with_reducible apply r_len); (focus (array_get_dec; done)))
  | with_reducible apply w_callW
  | with_reducible apply q_setW
  | with_reducible apply s_setW
  | with_reducible apply s_retW))

/-! ### what is told, as data -/
def vD : V → PyData
  | .int i => .int i
  | _ => .none
def Sca (v : V) : Prop := v = .non ∨ ∃ i : Int, v = .int i ∧ i.natAbs < 10 ^ 38
theorem filt_more {l : List Nat} {p q : Nat → Bool} (h : ∀ x, p x = true → q x = true) : (l.filter p).length ≤ (l.filter q).length := by
  induction l with
  | nil => exact Nat.le_refl _
  | cons a l ih =>
    rw [List.filter_cons, List.filter_cons]
    by_cases z : p a = true
    · rw [if_pos z, if_pos (h a z), List.length_cons, List.length_cons]; omega
    · rw [if_neg z]
      split
      · rw [List.length_cons]; omega
      · exact ih
theorem mw_mono {b : Nat} {x y : Int} (h : x ≤ y) : mw b x ≤ mw b y := filt_more fun z hz => decide_eq_true (Int.le_trans (of_decide_eq_true hz) h)
theorem mw_leb {b : Nat} {x : Int} : mw b x ≤ b := Nat.le_trans (List.length_filter_le _ _) (Nat.le_of_eq (MQ.gl_len b))
open Classical in
noncomputable def lbn (b m : Nat) : Nat := if h : ∃ g : Nat, 1 ≤ g ∧ g ≤ b ∧ m ≤ mw b (g : Int) ∧ mw b ((g : Int) - 1) < m then Classical.choose h else 0
open Classical in
theorem lbn_eq {b m g : Nat} (h1 : 1 ≤ g) (h2 : g ≤ b) (h3 : m ≤ mw b (g : Int)) (h4 : mw b ((g : Int) - 1) < m) : g = lbn b m := by
  have h : ∃ g : Nat, 1 ≤ g ∧ g ≤ b ∧ m ≤ mw b (g : Int) ∧ mw b ((g : Int) - 1) < m := ⟨g, h1, h2, h3, h4⟩
  have s := Classical.choose_spec h
  unfold lbn
  rw [dif_pos h]
  generalize Classical.choose h = k at s
  obtain ⟨s1, s2, s3, s4⟩ := s
  rcases Nat.lt_trichotomy g k with z | z | z
  · have := mw_mono (b := b) (x := (g : Int)) (y := (k : Int) - 1) (by omega); omega
  · exact z
  · have := mw_mono (b := b) (x := (k : Int)) (y := (g : Int) - 1) (by omega); omega
open Classical in
theorem lbn_le (b m : Nat) : lbn b m ≤ b := by
  unfold lbn
  split
  · rename_i h
    exact (Classical.choose_spec h).2.1
  · exact Nat.zero_le _
def pD (q : Int × Int) : PyData := .tuple [.int q.1, .int q.2]
noncomputable def askD (way : Nat) (row : List Nat) (n : Nat) : PyData := match way with
  | 0 => .list ((zl (nb row n)).map PyData.int)
  | 1 => .list [vD (lastNb row n), vD (.int ((nb row n).length : Int))]
  | 2 => .list ((gcs n).map pD)
  | 3 => .list [vD (.int (mw n (row.headD 0 : Nat) : Int)), vD (.int (lbn n (1 + n / 2) : Int))]
  | _ => .list [vD (.int (near row n : Int)), vD (optV (lom row (n % 13) n))]
section
variable {K : PySem.W.Frag} {H : Hp} {p : Addr}
theorem sca_dq {v : V} (h : Sca v) : Dq K H v (vD v) := by
  rcases h with rfl | ⟨i, rfl, _⟩
  · exact .non
  · exact .int i
theorem sca_sw {v : V} (h : Sca v) : Sw (vD v) 0 130 := by
  rcases h with rfl | ⟨i, rfl, hi⟩
  · exact sw_non.more (Nat.le_refl _) (by omega)
  · exact sw_int hi
theorem sca_nat {n : Nat} (h : n < 10 ^ 38) : Sca (.int (n : Int)) := .inr ⟨_, rfl, by rw [Int.natAbs_natCast]; exact h⟩
theorem shn_two {x y : V} (hx : Sca x) (hy : Sca y) (h : H p = some (.lst [x, y])) : Shn K H (.ref p) (.list [vD x, vD y]) :=
  shn (.lst (sq_at h) (.cons (sca_dq hx) (.cons (sca_dq hy) .nil))) (sw_list (sw_cons (sca_sw hx) (sw_cons (sca_sw hy) sw_nil)))
theorem shn_zv {l : List Nat} (hl : l.length ≤ 1001) (hm : ∀ x ∈ l, x < 10 ^ 38) (h : H p = some (.lst (zv l))) : Shn K H (.ref p) (.list ((zl l).map PyData.int)) := by
  refine shn (.lst (sq_at h) (dqa_ints (zl l))) (sw_list (swa_ints (zl l) fun i hi => ?_)) (by decide) ?_
  · obtain ⟨x, hx, rfl⟩ := List.mem_map.mp hi
    have := hm x hx
    show ((x : Int)).natAbs < _
    rw [Int.natAbs_natCast]; exact this
  · rw [zl_len]; omega
theorem prs_dq : ∀ {as : List Addr} {qs : List (Int × Int)}, as.length = qs.length → (∀ (i : Nat) (b : Addr) (q : Int × Int), as[i]? = some b → qs[i]? = some q → H b = some (.tup (pvals q))) → DqAll K H (as.map V.ref) (qs.map pD)
  | [], [], _, _ => .nil
  | a :: as, q :: qs, hl, h => .cons (.tup (st_at (h 0 a q rfl rfl)) (.cons (.int _) (.cons (.int _) .nil))) (prs_dq (by simpa using hl) fun i b z h1 h2 => h (i + 1) b z (by simpa using h1) (by simpa using h2))
theorem swa_prs : ∀ {qs : List (Int × Int)}, (∀ q ∈ qs, q.1.natAbs < 10 ^ 38 ∧ q.2.natAbs < 10 ^ 38) → SwA (qs.map pD) 1 (263 * qs.length)
  | [], _ => sw_nil
  | q :: qs, h => (sw_cons (sw_tup (sw_cons (sw_int (h q List.mem_cons_self).1) (sw_cons (sw_int (h q List.mem_cons_self).2) sw_nil))) (swa_prs fun z hz => h z (List.mem_cons_of_mem _ hz))).more (Nat.le_refl _) (by rw [List.length_cons]; omega)
theorem shn_prs {as : List Addr} {qs : List (Int × Int)} (hl : qs.length ≤ 1001) (hm : ∀ q ∈ qs, q.1.natAbs < 10 ^ 38 ∧ q.2.natAbs < 10 ^ 38) (pr : Prs H p as qs) : Shn K H (.ref p) (.list (qs.map pD)) :=
  shn (.lst (sq_at pr.lst) (prs_dq pr.len pr.tup)) (sw_list (swa_prs hm)) (by decide) (by omega)
end
theorem gcs_small {b : Nat} (hb : b ≤ 1000) : ∀ q ∈ gcs b, q.1.natAbs < 10 ^ 38 ∧ q.2.natAbs < 10 ^ 38 := fun q hq => by
  obtain ⟨g, hg, rfl⟩ := (MQ.cts_mem (fun x hx => gl_le hx)).mp hq
  have h1 := gl_le hg
  have h2 : (MQ.gl b).count g ≤ b := Nat.le_trans List.count_le_length (Nat.le_of_eq (MQ.gl_len b))
  show ((g : Int)).natAbs < _ ∧ (((MQ.gl b).count g : Nat) : Int).natAbs < _
  rw [Int.natAbs_natCast, Int.natAbs_natCast]
  omega
theorem nb_short {row : List Nat} {n : Nat} : (nb row n).length ≤ n + 1 := by
  have := len_le (l := nb row n) (m := List.range (n + 1)) ((nb_pair row n).imp fun h => Nat.ne_of_lt h) fun x hx => by
    rw [List.mem_range]
    have := (nb_mem.mp hx).1.2
    omega
  rw [List.length_range] at this
  exact this
theorem nb_le {row : List Nat} {n : Nat} : ∀ x ∈ nb row n, x ≤ n := fun x hx => (nb_mem.mp hx).1.2
theorem lastNb_sca {row : List Nat} {n : Nat} (hn : n ≤ 1000) : Sca (lastNb row n) := by
  unfold lastNb
  cases h : (nb row n).getLast? with
  | none => exact .inl rfl
  | some x =>
    have := nb_le x (List.mem_of_getLast? h)
    exact sca_nat (by omega)
theorem lom_sca {row : List Nat} {m x : Nat} : Sca (optV (lom row m x)) := by
  unfold lom
  cases h : lp row m x with
  | none => exact .inl rfl
  | some k =>
    show Sca (optV (if k ≤ 10 ^ 30 then some k else none))
    split
    · exact sca_nat (by omega)
    · exact .inl rfl
theorem mk_powG {row : List Nat} {p : Nat} (hp : p ∈ row) : ∀ k, Mk row (p ^ k)
  | 0 => .one
  | k + 1 => by rw [Nat.pow_succ, Nat.mul_comm]; exact .mul hp (mk_powG hp k)
theorem near_small {row : List Nat} (w : Rw row) (hne : row ≠ []) {n : Nat} (h0 : 0 < n) (hn : n ≤ 1000) : near row n < 10 ^ 38 := by
  obtain ⟨p0, rt, hrow⟩ := List.exists_cons_of_ne_nil hne
  have hp0m : p0 ∈ row := by rw [hrow]; exact List.mem_cons_self
  have hp0 := w.ge hp0m
  have h1 : n - 1 < p0 ^ 10 := Nat.lt_of_lt_of_le (show n - 1 < 2 ^ 10 by omega) (Nat.pow_le_pow_left hp0.1 10)
  have h2 := (nxt_is w.good hne (n - 1)).le _ (mk_powG hp0m 10) h1
  have h3 : p0 ^ 10 ≤ 128 ^ 10 := Nat.pow_le_pow_left (by omega) 10
  obtain ⟨_, _, _, h6, _⟩ := near_facts w.good hne (n := n) h0
  unfold near
  split <;> omega
/-! ### asked -/
def sp_law_askedG (K : PySem.W.Frag) : Sp := fun vs H Q _ => Nod H ∧ ∃ (way n : Nat) (a : Addr) (row : List Nat), vs = [.int (way : Int), .ref a, .int (n : Int)] ∧ way < 5 ∧ RowAt H a row ∧ 1 ≤ n ∧ n ≤ 1000 ∧
  ∀ (p : Addr) (xs : List V) (H' : Hp), H p = none → H' p = some (.lst xs) → xs.length ≤ 1001 → Ex H H' → Nod H' → Shn K H' (.ref p) (askD way row n) → Q (.ref p) H'
/-- slots: at row number -/
abbrev n_law_askedG : List Str := ["at", "row", "number"]
def t_law_askedG (K : PySem.W.Frag) : TS := (sFg (tSeq (tIfS (tTest (tOp rEq (tVar 0) (tC (.int 0)))) (tRet (tCall (sp_neighboursX K) [] E0 (tCons (tVar 1) (tCons (tVar 2) tNil)))) tNext)
  (tSeq (tIfS (tTest (tOp rEq (tVar 0) (tC (.int 1)))) (tRet (tLst (tCons (tCall (sp_last_neighbourX K) [] E0 (tCons (tVar 1) (tCons (tVar 2) tNil))) (tCons (tCall (sp_many_neighboursX K) [] E0 (tCons (tVar 1) (tCons (tVar 2) tNil))) tNil)))) tNext)
  (tSeq (tIfS (tTest (tOp rEq (tVar 0) (tC (.int 2)))) (tRet (tCall (sp_by_greatest K) [] E0 (tCons (tVar 2) tNil))) tNext)
  (tSeq (tIfS (tTest (tOp rEq (tVar 0) (tC (.int 3)))) (tRet (tLst (tCons (tCall (sp_many_with K) [] E0 (tCons (tVar 2) (tCons (tOp (rIxL K) (tVar 1) (tC (.int 0))) tNil))) (tCons (tCall (sp_least_boundX K) [] E0 (tCons (tVar 2) (tCons (tOp oAdd (tC (.int 1)) (tOp oDiv (tVar 2) (tC (.int 2)))) tNil))) tNil)))) tNext)
  (tRet (tLst (tCons (tCall (sp_nearestX K) [] E0 (tCons (tVar 1) (tCons (tVar 2) tNil))) (tCons (tCall (sp_least_of_manyX K) [] E0 (tCons (tVar 1) (tCons (tOp oMod (tVar 2) (tC (.int 13))) (tCons (tVar 2) tNil)))) tNil)))))))))
theorem r_law_askedG {K : PySem.W.Frag} {vs : List V} {H : Hp} {Q : VK} {E : XK} (h : sp_law_askedG K vs H Q E) : t_law_askedG K { nx := fun _ H' => Q .non H', rt := Q } (start n_law_askedG vs) H := by
  obtain ⟨nd, way, n, a, row, rfl, hw, r, h1, hn, q⟩ := h
  have w := r.w
  have hlen := nb_short (row := row) (n := n)
  have htop : n ≤ topN row := by
    have : 10 ^ 9 ≤ topN row := by unfold topN; split <;> decide
    omega
  have fin : ∀ {p : Addr} {x y : V}, H p = none → Sca x → Sca y → askD way row n = .list [vD x, vD y] → ∃ H'', Fg H (upd H p (.lst [x, y])) H'' ∧ Q (.ref p) H'' := fun {p x y} hp hx hy e =>
    ⟨_, fg_newL hp (ex_new hp) upd_same, q p _ _ hp upd_same (by show 2 ≤ 1001; decide) (ex_new hp) (nod_upd nd trivial) (by rw [e]; exact shn_two hx hy upd_same)⟩
  rcases (by omega : way = 0 ∨ way = 1 ∨ way = 2 ∨ way = 3 ∨ way = 4) with rfl | rfl | rfl | rfl | rfl
  · refine fg_body (q_whenP (ep_eqi (i := 0) (ev_v 0) ev_c) (fun _ => ?_) fun z => absurd rfl z)
    refine s_retW (ea_2 (ev_v 1) (ev_v 2) _ ⟨nd, _, _, rfl, .inl ⟨nd, a, row, n, rfl, r, by omega, fun p hp => ⟨_, fg_newL hp (ex_new hp) upd_same, q p _ _ hp upd_same (by rw [zv_len]; omega) (ex_new hp) (nod_upd nd trivial) (shn_zv (by omega) (fun x hx => ?_) upd_same)⟩⟩⟩)
    have := nb_le x hx
    omega
  · refine fg_body (q_never (ep_eqi (i := 1) (ev_v 0) ev_c) (by omega) (q_whenP (ep_eqi (i := 1) (ev_v 0) ev_c) (fun _ => ?_) fun z => absurd rfl z))
    have e1 : Ev (tCall (sp_last_neighbourX K) [] E0 (tCons (tVar 1) (tCons (tVar 2) tNil))) (start n_law_askedG [.int ((1 : Nat) : Int), .ref a, .int (n : Int)]) H (lastNb row n) := fun Q q => ea_2 (ev_v 1) (ev_v 2) _ ⟨nd, _, _, rfl, .inl ⟨nd, a, row, n, rfl, r, by omega, q⟩⟩
    have e2 : Ev (tCall (sp_many_neighboursX K) [] E0 (tCons (tVar 1) (tCons (tVar 2) tNil))) (start n_law_askedG [.int ((1 : Nat) : Int), .ref a, .int (n : Int)]) H (.int ((nb row n).length : Int)) := fun Q q => ea_2 (ev_v 1) (ev_v 2) _ ⟨nd, _, _, rfl, .inl ⟨nd, a, row, n, rfl, r, by omega, q⟩⟩
    exact s_retW (el_lst (ea_2 e1 e2) (by simp) _ fun p hp => fin hp (lastNb_sca hn) (sca_nat (by omega)) rfl)
  · refine fg_body (q_never (ep_eqi (i := 2) (ev_v 0) ev_c) (by omega) (q_never (ep_eqi (i := 2) (ev_v 0) ev_c) (by omega) (q_whenP (ep_eqi (i := 2) (ev_v 0) ev_c) (fun _ => ?_) fun z => absurd rfl z)))
    have qn : NewP H (gcs n) Q := fun p as H' hp has e n1 pr => q p _ H' hp pr.lst (by rw [List.length_map, pr.len]; have := gcs_len n; omega) e n1 (shn_prs (by have := gcs_len n; omega) (gcs_small hn) pr)
    exact s_retW (w_callW (w_one (w_v 2 ⟨nd, n, rfl, by omega, by omega, fun p as H' hp has e n1 pr => qn.fg e pr hp has⟩)))
  · refine fg_body (q_never (ep_eqi (i := 3) (ev_v 0) ev_c) (by omega) (q_never (ep_eqi (i := 3) (ev_v 0) ev_c) (by omega) (q_never (ep_eqi (i := 3) (ev_v 0) ev_c) (by omega) (q_whenP (ep_eqi (i := 3) (ev_v 0) ev_c) (fun _ => ?_) fun z => absurd rfl z))))
    have h0 : 0 < row.length := r.len.1
    have eh : row.headD 0 = row[0] := by
      obtain ⟨p0, rt, rfl⟩ := List.exists_cons_of_ne_nil r.ne
      rfl
    have e1 : Ev (tCall (sp_many_with K) [] E0 (tCons (tVar 2) (tCons (tOp (rIxL K) (tVar 1) (tC (.int 0))) tNil))) (start n_law_askedG [.int ((3 : Nat) : Int), .ref a, .int (n : Int)]) H (.int (mw n (row.headD 0 : Nat) : Int)) := fun Q q => ea_2 (ev_v 2) (ev_ixL (ev_v 1) ev_c r.sq (zv_at (i := 0) h0)) _ ⟨nd, n, _, rfl, by omega, by omega, by rw [← eh]; exact q⟩
    have e2 : Ev (tCall (sp_least_boundX K) [] E0 (tCons (tVar 2) (tCons (tOp oAdd (tC (.int 1)) (tOp oDiv (tVar 2) (tC (.int 2)))) tNil))) (start n_law_askedG [.int ((3 : Nat) : Int), .ref a, .int (n : Int)]) H (.int (lbn n (1 + n / 2) : Int)) := fun Q q => ea_2 (ev_v 2) (ev_eq (y := .int ((1 + n / 2 : Nat) : Int)) (ev_add (i := 1) ev_c (ev_div (i := (n : Int)) (j := 2) (ev_v 2) ev_c (cd (by omega)))) (by congr 1)) _ ⟨nd, n, _, rfl, by omega, .inl ⟨1 + n / 2, rfl, by omega, by omega, fun g g1 g2 g3 g4 => by rw [lbn_eq g1 g2 g3 g4]; exact q⟩⟩
    exact s_retW (el_lst (ea_2 e1 e2) (by simp) _ fun p hp => fin hp (sca_nat (by have := mw_leb (b := n) (x := (row.headD 0 : Nat)); omega)) (sca_nat (by have := lbn_le n (1 + n / 2); omega)) rfl)
  · refine fg_body (q_never (ep_eqi (i := 4) (ev_v 0) ev_c) (by omega) (q_never (ep_eqi (i := 4) (ev_v 0) ev_c) (by omega) (q_never (ep_eqi (i := 4) (ev_v 0) ev_c) (by omega) (q_never (ep_eqi (i := 4) (ev_v 0) ev_c) (by omega) ?_))))
    have e1 : Ev (tCall (sp_nearestX K) [] E0 (tCons (tVar 1) (tCons (tVar 2) tNil))) (start n_law_askedG [.int ((4 : Nat) : Int), .ref a, .int (n : Int)]) H (.int (near row n : Int)) := fun Q q => ea_2 (ev_v 1) (ev_v 2) _ ⟨nd, _, _, rfl, .inl ⟨nd, a, row, n, rfl, r, by omega, htop, q⟩⟩
    have e2 : Ev (tCall (sp_least_of_manyX K) [] E0 (tCons (tVar 1) (tCons (tOp oMod (tVar 2) (tC (.int 13))) (tCons (tVar 2) tNil)))) (start n_law_askedG [.int ((4 : Nat) : Int), .ref a, .int (n : Int)]) H (optV (lom row (n % 13) n)) := fun Q q => ea_3 (ev_v 1) (ev_eq (y := .int ((n % 13 : Nat) : Int)) (ev_mod (i := (n : Int)) (ev_v 2) ev_c (by omega)) (by congr 1)) (ev_v 2) _ ⟨nd, _, _, _, rfl, .inl ⟨nd, a, row, n % 13, n, rfl, r, by omega, by omega, q⟩⟩
    exact s_retW (el_lst (ea_2 e1 e2) (by simp) _ fun p hp => fin hp (sca_nat (near_small w r.ne h1 hn)) lom_sca rfl)
/-! ### refused -/
theorem badR {K : PySem.W.Frag} {B : Hp} {a : Addr} {l : List Nat} (h : B a = some (.lst (zv l))) (hn : ¬ (Rw l ∧ l ≠ [])) : BadRow K B (.ref a) :=
  .inr ⟨a, zv l, rfl, h, elt_zv, fun row w hne e => hn (by rw [zv_inj e]; exact ⟨w, hne⟩)⟩
theorem nr_two {row : List Nat} (hne : row ≠ []) : ¬ (Rw (row ++ row) ∧ row ++ row ≠ []) := fun ⟨w, _⟩ => by
  obtain ⟨p0, rt, rfl⟩ := List.exists_cons_of_ne_nil hne
  have := (List.pairwise_append.mp w.up).2.2 p0 List.mem_cons_self p0 List.mem_cons_self
  omega
theorem at3 {a b c : V} {k : Nat} (hk : k < 3) : ∃ v, atI [a, b, c] (k : Int) = some v ∧ (v = a ∨ v = b ∨ v = c) := by
  rcases (by omega : k = 0 ∨ k = 1 ∨ k = 2) with rfl | rfl | rfl
  · exact ⟨a, rfl, .inl rfl⟩
  · exact ⟨b, rfl, .inr (.inl rfl)⟩
  · exact ⟨c, rfl, .inr (.inr rfl)⟩
theorem at4 {a b c d : V} {k : Nat} (hk : k < 4) : ∃ v, atI [a, b, c, d] (k : Int) = some v ∧ (v = a ∨ v = b ∨ v = c ∨ v = d) := by
  rcases (by omega : k = 0 ∨ k = 1 ∨ k = 2 ∨ k = 3) with rfl | rfl | rfl | rfl
  · exact ⟨a, rfl, .inl rfl⟩
  · exact ⟨b, rfl, .inr (.inl rfl)⟩
  · exact ⟨c, rfl, .inr (.inr (.inl rfl))⟩
  · exact ⟨d, rfl, .inr (.inr (.inr rfl))⟩
theorem w_csG {sp : Sp} {Ew : L2.St → XK} {σ : L2.St} {H : Hp} {t : TA} {Q : VK} (h : t σ H fun vs H1 => sp vs H1 Q (Ew σ)) : tCallS sp Ew t σ H Q := h
def sp_law_refusedG (K : PySem.W.Frag) : Sp := fun vs H Q _ => Nod H ∧ ∃ (a : Addr) (row : List Nat) (n turn : Nat), vs = [.ref a, .int (n : Int), .int (turn : Int)] ∧ RowAt H a row ∧ 1 ≤ n ∧ n ≤ 1000 ∧ Q (.bl true) H
/-- slots: row drawn turn caught number -/
abbrev n_law_refusedG : List Str := ["row", "drawn", "turn", "caught", "number"]
def t_law_refusedG (K : PySem.W.Frag) : TS := (sFg (tSeq (tAsg (tC (.bl false)) (gName 3))
  (tSeq (tAsg (tOp (rIxL K) (tLst (tCons (tVar 1) (tCons (tC (.int 1)) (tCons (tOp oSub (tOp oPow (tC (.int 10)) (tC (.int 9))) (tC (.int 1))) (tCons (tVar 1) tNil))))) (tOp oMod (tVar 2) (tC (.int 4)))) (gName 4))
  (tSeq (tTry2 K (.ref (He.ga K "NoPlace")) (.ref (He.ga K "NoPrimes")) (fun W => (tIfS (tTest (tOp rEq (tOp oMod (tVar 2) (tC (.int 3))) (tC (.int 0)))) (tDrop (tCallS (sp_least_boundX K) (WE W) (tCons (tVar 1) (tCons (tOp (rIxL K) (tLst (tCons (tC (.int 0)) (tCons (tOp oAdd (tVar 1) (tC (.int 1))) (tCons (tC .non) tNil)))) (tOp oDiv (tOp oMod (tVar 2) (tC (.int 9))) (tC (.int 3)))) tNil)))) (tIfS (tTest (tOp rEq (tOp oMod (tVar 2) (tC (.int 3))) (tC (.int 1)))) (tDrop (tCallS (sp_nearestX K) (WE W) (tCons (tOp (rIxL K) (tLst (tCons (tOp rCat (tVar 0) (tVar 0)) (tCons (tLst (tCons (tOp (rIxL K) (tLst (tCons (tC (.int 4)) (tCons (tC (.int 25)) (tCons (tC (.int 55)) (tCons (tC (.int 91)) tNil))))) (tOp oMod (tVar 1) (tC (.int 4)))) tNil)) (tCons (tC .non) tNil)))) (tOp oDiv (tOp oMod (tVar 2) (tC (.int 9))) (tC (.int 3)))) (tCons (tVar 4) tNil)))) (tDrop (tCallS (sp_neighboursX K) (WE W) (tCons (tOp (rIxL K) (tLst (tCons (tLst tNil) (tCons (tLst (tCons (tC (.int 2)) (tCons (tC (.int 5)) (tCons (tC (.int 3)) tNil)))) (tCons (tC (.str (PySem.Str.ofString "2"))) tNil)))) (tOp oDiv (tOp oMod (tVar 2) (tC (.int 9))) (tC (.int 3)))) (tCons (tVar 4) tNil))))))) (tAsg (tC (.bl true)) (gName 3)))
  (tRet (tVar 3))))))
theorem r_law_refusedG {K : PySem.W.Frag} (hM : Exms2 K) {vs : List V} {H : Hp} {Q : VK} {E : XK} (h : sp_law_refusedG K vs H Q E) : t_law_refusedG K { nx := fun _ H' => Q .non H', rt := Q } (start n_law_refusedG vs) H := by
  obtain ⟨nd, a, row, n, turn, rfl, r, h1, hn, q⟩ := h
  have hl := r.len
  refine fg_body (q_set ev_c ?_)
  -- number
  refine q_setW (w_op (w_evL (el_lst (ea_cons (ev_v 1) (ea_3 ev_c (ev_sub (i := 10 ^ (9 : Int).toNat) (ev_pow ev_c ev_c (cp (by decide))) ev_c) (ev_v 1))) (by simp)) fun p0 hp0 => ?_))
  obtain ⟨v0, ev0, hv0⟩ := at4 (a := .int (n : Int)) (b := .int 1) (c := .int (10 ^ (9 : Int).toNat - 1)) (d := .int (n : Int)) (k := turn % 4) (by omega)
  refine w_ev (ev_eq (y := .int ((turn % 4 : Nat) : Int)) (ev_mod (i := (turn : Int)) (ev_v 2) ev_c (by omega)) (by congr 1)) (r_ix (v := v0) sq_up ev0 ?_)
  have hi0 : ∃ i : Int, v0 = .int i := by rcases hv0 with rfl | rfl | rfl | rfl <;> exact ⟨_, rfl⟩
  have e0 : Ex H (upd H p0 (.lst [.int (n : Int), .int 1, .int (10 ^ (9 : Int).toNat - 1), .int (n : Int)])) := ex_new hp0
  have n0 : Nod (upd H p0 (.lst [.int (n : Int), .int 1, .int (10 ^ (9 : Int).toNat - 1), .int (n : Int)])) := nod_upd nd trivial
  generalize upd H p0 _ = H1 at e0 n0
  dsimp only [L2.start, List.set]
  obtain ⟨i0, rfl⟩ := hi0
  clear ev0 hv0 hp0
  refine q_seq (w_try2 ?_)
  have fin : ∀ {x : Str} {H2 : Hp} {D : Ends}, x ∈ two5 → D.nx [some (.ref a), some (.int (n : Int)), some (.int (turn : Int)), some (.bl true), some (.int i0)] H2 → WE (w2X K (.ref (He.ga K "NoPlace")) (.ref (He.ga K "NoPrimes")) (tAsg (tC (.bl true)) (gName 3)) D) [some (.ref a), some (.int (n : Int)), some (.int (turn : Int)), some (.bl false), some (.int i0)] (.ref (He.ga K x)) none H2 := fun {x H2 D} hx k => ⟨exm_two hM hx, s_set ev_c k⟩
  have fg : ∀ {H2 : Hp}, Ex H1 H2 → ∃ H'', Fg H H2 H'' ∧ Q (.bl true) H'' := fun e => ⟨H, fg_same (ex_trans e0 e), q⟩
  have idx : ∀ H2, Ev (tOp oDiv (tOp oMod (tVar 2) (tC (.int 9))) (tC (.int 3))) [some (.ref a), some (.int (n : Int)), some (.int (turn : Int)), some (.bl false), some (.int i0)] H2 (.int ((turn % 9 / 3 : Nat) : Int)) := fun H2 => ev_eq (ev_div (i := ((turn % 9 : Nat) : Int)) (j := 3) (ev_eq (y := .int ((turn % 9 : Nat) : Int)) (ev_mod (i := (turn : Int)) (ev_v 2) ev_c (by omega)) (by congr 1)) ev_c (cd (by omega))) (by congr 1)
  have hk3 : turn % 9 / 3 < 3 := by omega
  refine s_ifP (ep_eqi (i := ((turn % 3 : Nat) : Int)) (j := 0) (ev_eq (y := .int ((turn % 3 : Nat) : Int)) (ev_mod (i := (turn : Int)) (ev_v 2) ev_c (by omega)) (by congr 1)) ev_c) (fun _ => ?_) fun _ => s_ifP (ep_eqi (i := ((turn % 3 : Nat) : Int)) (j := 1) (ev_eq (y := .int ((turn % 3 : Nat) : Int)) (ev_mod (i := (turn : Int)) (ev_v 2) ev_c (by omega)) (by congr 1)) ev_c) (fun _ => ?_) fun _ => ?_
  · refine s_dropW (w_csG (w_cons (w_v 1 (w_one (w_op (w_evL (el_lst (ea_3 ev_c (ev_add (i := (n : Int)) (ev_v 1) ev_c) ev_c) (by simp)) fun p hp => ?_))))))
    obtain ⟨v, e1, hv⟩ := at3 (a := .int 0) (b := .int ((n : Int) + 1)) (c := .non) hk3
    refine w_ev (idx _) (r_ix (v := v) sq_up e1 ⟨nod_upd n0 trivial, n, v, rfl, by omega, .inr ⟨?_, fin (by decide) (s_ret (ev_v 3) (fg (ex_new hp)))⟩⟩)
    rcases hv with rfl | rfl | rfl
    · exact .inr (.inr ⟨0, rfl, by omega⟩)
    · exact .inr (.inr ⟨_, rfl, by omega⟩)
    · exact .inl ⟨"NoneType", .non, by decide +kernel⟩
  · have rat := e0 _ _ r.at_
    refine s_dropW (w_csG (w_cons (w_op (w_lst (w_cons (w_evL (el_cat (ev_v 0) (ev_v 0) rat rat (by rw [zv_len, sizeLine_eq]; omega)) fun p1 hp1 => ?_))))))
    rw [← zv_app]
    have b1 : BadRow K (upd H1 p1 (.lst (zv (row ++ row)))) (.ref p1) := badR upd_same (nr_two r.ne)
    have n1 : Nod (upd H1 p1 (.lst (zv (row ++ row)))) := nod_upd n0 trivial
    have x1 : Ex H1 (upd H1 p1 (.lst (zv (row ++ row)))) := ex_new hp1
    generalize upd H1 p1 _ = H2 at b1 n1 x1
    refine w_cons (w_lst (w_one (w_op (w_evL (el_lst (vs := zv [4, 25, 55, 91]) (ea_cons ev_c (ea_3 ev_c ev_c ev_c)) (by decide)) fun p2 hp2 => ?_))))
    obtain ⟨v, e1, hv⟩ := at4 (a := .int ((4 : Nat) : Int)) (b := .int ((25 : Nat) : Int)) (c := .int ((55 : Nat) : Int)) (d := .int ((91 : Nat) : Int)) (k := n % 4) (by omega)
    obtain ⟨c, rfl, hc⟩ : ∃ c : Nat, v = .int (c : Int) ∧ c ∉ PR := by
      rcases hv with rfl | rfl | rfl | rfl
      · exact ⟨_, rfl, by decide⟩
      · exact ⟨_, rfl, by decide⟩
      · exact ⟨_, rfl, by decide⟩
      · exact ⟨_, rfl, by decide⟩
    refine w_ev (ev_eq (y := .int ((n % 4 : Nat) : Int)) (ev_mod (i := (n : Int)) (ev_v 1) ev_c (by omega)) (by congr 1)) (r_ix (v := .int (c : Int)) sq_up e1 ⟨by show 1 ≤ sizeLine; decide, fun p3 hp3 => ?_⟩)
    have b2 : BadRow K (upd (upd H2 p2 (.lst (zv [4, 25, 55, 91]))) p3 (.lst (zv [c]))) (.ref p3) := badR upd_same (nr_in (n := c) (by simp) hc)
    have x2 : Ex H2 (upd (upd H2 p2 (.lst (zv [4, 25, 55, 91]))) p3 (.lst (zv [c]))) := ex_upd (ex_none (ex_new hp2) hp3) (ex_new hp2)
    have n2 : Nod (upd (upd H2 p2 (.lst (zv [4, 25, 55, 91]))) p3 (.lst (zv [c]))) := nod_upd (nod_upd n1 trivial) trivial
    refine w_one (w_c ⟨by show 3 ≤ sizeLine; decide, fun p4 hp4 => ?_⟩)
    obtain ⟨v, e1, hv⟩ := at3 (a := .ref p1) (b := .ref p3) (c := .non) hk3
    refine w_ev (idx _) (r_ix (v := v) sq_up e1 (w_one (w_v 4 ⟨nod_upd n2 trivial, v, _, rfl, .inr ⟨⟨i0, rfl⟩, ?_, fin (by decide) (s_ret (ev_v 3) (fg (ex_trans x1 (ex_trans x2 (ex_new hp4)))))⟩⟩)))
    rcases hv with rfl | rfl | rfl
    · exact (b1.ex x2).ex (ex_new hp4)
    · exact b2.ex (ex_new hp4)
    · exact bl_non
  · refine s_dropW (w_csG (w_cons (w_op (w_lst (w_cons (el_nil _ fun p1 hp1 => ?_))))))
    have b1 : BadRow K (upd H1 p1 (.lst (zv []))) (.ref p1) := badR upd_same fun z => z.2 rfl
    have n1 : Nod (upd H1 p1 (.lst (zv []))) := nod_upd n0 trivial
    have x1 : Ex H1 (upd H1 p1 (.lst (zv []))) := ex_new hp1
    refine w_cons (w_evL (el_lst (vs := zv [2, 5, 3]) (ea_3 ev_c ev_c ev_c) (by decide)) fun p2 hp2 => ?_)
    have b2 : BadRow K (upd (upd H1 p1 (.lst (zv []))) p2 (.lst (zv [2, 5, 3]))) (.ref p2) := badR upd_same (nr_swap (i := 1) (j := 2) (x := 5) (y := 3) rfl rfl (by omega) (by omega))
    have x2 : Ex (upd H1 p1 (.lst (zv []))) (upd (upd H1 p1 (.lst (zv []))) p2 (.lst (zv [2, 5, 3]))) := ex_new hp2
    have n2 : Nod (upd (upd H1 p1 (.lst (zv []))) p2 (.lst (zv [2, 5, 3]))) := nod_upd n1 trivial
    refine w_one (w_c ⟨by show 3 ≤ sizeLine; decide, fun p4 hp4 => ?_⟩)
    obtain ⟨v, e1, hv⟩ := at3 (a := .ref p1) (b := .ref p2) (c := .str (PySem.Str.ofString "2")) hk3
    refine w_ev (idx _) (r_ix (v := v) sq_up e1 (w_one (w_v 4 ⟨nod_upd n2 trivial, v, _, rfl, .inr ⟨?_, fin (by decide) (s_ret (ev_v 3) (fg (ex_trans x1 (ex_trans x2 (ex_new hp4)))))⟩⟩)))
    rcases hv with rfl | rfl | rfl
    · exact (b1.ex x2).ex (ex_new hp4)
    · exact b2.ex (ex_new hp4)
    · exact bl_str
end Px
set_option Elab.async false
set_option linter.all false
set_option maxRecDepth 100000
set_option maxHeartbeats 4000000
namespace Px
open PySem L2 MA
local macro_rules | `(tactic| bv_omega) => `(tactic| first | assumption | omega | exact cm (by omega) | exact cd (by omega) | exact cp (by omega) | exact trivial)
local macro_rules | `(tactic| array_get_dec) => `(tactic| first
  | assumption
  | exact sq_up
  | exact Own.sqi (by assumption) 0 (by rfl)
  | exact Own.sqi (by assumption) 1 (by rfl)
  | exact Own.sqi (by assumption) 2 (by rfl)
  | exact Own.sqi (by assumption) 3 (by rfl)
  | exact Own.sqi (by assumption) 4 (by rfl)
  | exact Own.sq (by assumption) (by assumption)
  | exact sq_new (by assumption) (by assumption))
local macro_rules | `(tactic| clean_wf) => `(tactic| first
  | with_reducible exact ev_c
  | (with_reducible apply ev_v') <;> rfl
  | (with_reducible apply ev_add) <;> clean_wf
  | (with_reducible apply ev_sub) <;> clean_wf
  | (with_reducible apply ev_mul) <;> clean_wf
  | (with_reducible apply ev_mod) <;> clean_wf
  | (with_reducible apply ev_div) <;> clean_wf
  | (with_reducible apply ev_pow) <;> clean_wf
  | (with_reducible apply ev_neg) <;> clean_wf
  | (with_reducible apply ev_lt) <;> clean_wf
  | (with_reducible apply ev_le) <;> clean_wf
  | (with_reducible apply ev_gt) <;> clean_wf
  | (with_reducible apply ev_ge) <;> clean_wf
  | (with_reducible apply ev_eqi) <;> clean_wf
  | (with_reducible apply ev_nei) <;> clean_wf
  | (with_reducible apply ev_len) <;> clean_wf
  | (with_reducible apply ev_ixL) <;> clean_wf
  | (with_reducible apply ev_min) <;> clean_wf
  | (with_reducible apply ev_max) <;> clean_wf
  | (with_reducible apply ev_abs) <;> clean_wf
  | (with_reducible apply ev_intB) <;> clean_wf
  | (with_reducible apply ea_1) <;> clean_wf
  | (with_reducible apply ea_2) <;> clean_wf
  | (with_reducible apply ea_3) <;> clean_wf
  | with_reducible exact ea_nil
  | (with_reducible apply ea_cons) <;> clean_wf
  | with_reducible exact el_nil
  | (with_reducible apply ep_lt) <;> clean_wf
  | (with_reducible apply ep_le) <;> clean_wf
  | (with_reducible apply ep_gt) <;> clean_wf
  | (with_reducible apply ep_ge) <;> clean_wf
  | (with_reducible apply ep_eqi) <;> clean_wf
  | (with_reducible apply ep_nei) <;> clean_wf
  | (with_reducible apply ep_not) <;> clean_wf
  | ((with_reducible apply ep_and) <;> first | (intro _; clean_wf; done) | clean_wf)
  | ((with_reducible apply ep_or) <;> first | (intro _; clean_wf; done) | clean_wf)
  | (with_reducible apply et_t) <;> clean_wf
  | (with_reducible apply eo_is) <;> clean_wf
  | with_reducible exact eo_no
  | array_get_dec
  | bv_omega
  | rfl
  | skip)
local macro_rules | `(tactic| symm_saturate) => `(tactic| first
  | ((with_reducible apply q_set); (focus (clean_wf; done)))
  | ((with_reducible apply s_set); (focus (clean_wf; done)))
  | ((with_reducible apply q_aug (hx := rfl)); (focus (clean_wf; done)))
  | ((with_reducible apply s_aug (hx := rfl)); (focus (clean_wf; done)))
  | ((with_reducible apply q_augC (hx := rfl)); (focus (clean_wf; done)))
  | ((with_reducible apply s_augC (hx := rfl)); (focus (clean_wf; done))))
local macro_rules | `(tactic| subst_eqs) => `(tactic| repeat' (first
  | with_reducible apply w_c
  | ((with_reducible apply w_v'); (focus rfl))
  | with_reducible apply w_op
  | with_reducible apply w_cb
  | with_reducible apply w_cons
  | with_reducible apply w_nil
  | with_reducible apply r_add
  | with_reducible apply r_sub
  | ((with_reducible apply r_mul); (focus (bv_omega; done)))
  | ((with_reducible apply r_div); (focus (bv_omega; done)))
  | ((with_reducible apply r_mod); (focus (bv_omega; done)))
  | ((with_reducible apply r_pow); (focus (bv_omega; done)))
  | with_reducible apply r_lt
  | with_reducible apply r_le
  | with_reducible apply r_gt
  | with_reducible apply r_ge
  | with_reducible apply r_min
  | with_reducible apply r_max
  | with_reducible apply r_intB
  | ((with_reducible apply r_len); (focus (array_get_dec; done)))
  | with_reducible apply w_callW
  | with_reducible apply q_setW
  | with_reducible apply s_setW
  | with_reducible apply s_retW))

/-! ### one's own lists beside a dict with tuples as keys -/
theorem kt_lst {H : Hp} {kvs : List (List Key × V)} {xs : List (List Key × Addr × Value)} {p : Addr} {l : List V} {u : HO} (h : KT H kvs xs) (hp : H p = some (.lst l)) : KT (upd H p u) kvs xs :=
  kt_mono h fun b us q => by rw [upd_ne (fun z => by rw [z, hp] at q; cases q)]; exact q
theorem Own.otherG {B H : Hp} {L : List (Addr × List V)} {d : Addr} {u' : HO} (o : Own B L H) (hd : ∀ xs, H d ≠ some (.lst xs)) (hB : B d = none) (f : flat u') : Own B L (upd H d u') where
  nod := nod_upd o.nod f
  ex := fun b u hb => by
    rw [upd_ne (fun z => by rw [z, hB] at hb; cases hb)]; exact o.ex b u hb
  off := o.off
  dis := o.dis
  has := fun q hq => by
    rw [upd_ne (fun z => hd q.2 (by rw [← z]; exact o.has q hq))]; exact o.has q hq
structure Ti (P : Program) (w : World) (B : Hp) (pd : Addr) (L : List (Addr × List V)) (kvs : List (List Key × V)) (H : Hp) : Prop where
  o : Own B L H
  off : B pd = none
  dt : ∃ xs, H pd = some (dtH P w pd xs) ∧ KT H kvs xs
section
variable {P : Program} {w : World} {B H H' : Hp} {pd p : Addr} {L : List (Addr × List V)} {kvs : List (List Key × V)} {xs ys : List V}
theorem Ti.new (c : Ti P w B pd L kvs H) (hp : H p = none) : Ti P w B pd ((p, xs) :: L) kvs (upd H p (.lst xs)) :=
  ⟨c.o.new hp, c.off, by obtain ⟨zs, h1, h2⟩ := c.dt; exact ⟨zs, by rw [upd_ne (ne_of_none h1 hp)]; exact h1, kt_ex h2 (ex_new hp)⟩⟩
theorem Ti.adopt (c : Ti P w B pd L kvs H) (e : Ex H H') (n : Nod H') (h0 : H p = none) (h1 : H' p = some (.lst xs)) : Ti P w B pd ((p, xs) :: L) kvs H' :=
  ⟨c.o.adopt e n h0 h1, c.off, by obtain ⟨zs, h1, h2⟩ := c.dt; exact ⟨zs, e _ _ h1, kt_ex h2 e⟩⟩
theorem Ti.mut (c : Ti P w B pd L kvs H) (i : Nat) (h : L[i]? = some (p, xs)) : Ti P w B pd (L.set i (p, ys)) kvs (upd H p (.lst ys)) :=
  ⟨c.o.mut i h, c.off, by
    obtain ⟨zs, h1, h2⟩ := c.dt
    have hp := c.o.atI i h
    exact ⟨zs, by rw [upd_ne (fun z => by rw [z, hp] at h1; cases h1)]; exact h1, kt_lst h2 hp⟩⟩
theorem Ti.sub {L' : List (Addr × List V)} (c : Ti P w B pd L kvs H) (s : L'.Sublist L) : Ti P w B pd L' kvs H := ⟨c.o.sub s, c.off, c.dt⟩
/-- behind a thawing in which a tuple was made -/
theorem Ti.thawed {H8 : Hp} {tk : Addr} {zs : List V} {kvs' : List (List Key × V)} {xs3 : List (List Key × Addr × Value)} (c : Ti P w B pd L kvs H) (ht : H tk = none) (h8 : ∀ b, b ≠ pd → H8 b = upd H tk (.tup zs) b) (hn : ∀ us, H8 pd ≠ some (.tup us)) (hk : KT H8 kvs' xs3) :
    Ti P w B pd L kvs' (upd H8 pd (dtH P w pd xs3)) := by
  have e : upd H8 pd (dtH P w pd xs3) = upd (upd H tk (.tup zs)) pd (dtH P w pd xs3) := by
    funext b
    by_cases z : b = pd
    · rw [z, upd_same, upd_same]
    · rw [upd_ne z, upd_ne z]; exact h8 b z
  refine ⟨?_, c.off, xs3, upd_same, kt_mono hk fun b us q => by rw [upd_ne (fun z => hn us (by rw [← z]; exact q))]; exact q⟩
  rw [e]
  obtain ⟨ws, h1, _⟩ := c.dt
  refine (c.o.tup ht).otherG (fun xs z => ?_) c.off trivial
  rw [upd_ne (ne_of_none h1 ht), h1] at z
  cases z
end
/-! ### the worlds -/
def WorldAt (B : Hp) (x : V) : Prop := ∃ (t r : Addr) (row : List Nat) (n : Nat), x = .ref t ∧ B t = some (.tup [.ref r, .int (n : Int)]) ∧ RowAt B r row ∧ 1 ≤ n ∧ n ≤ 1000
theorem WorldAt.ex {B B' : Hp} {x : V} (h : WorldAt B x) (e : Ex B B') : WorldAt B' x := by
  obtain ⟨t, r, row, n, h1, h2, h3, h4⟩ := h
  exact ⟨t, r, row, n, h1, e _ _ h2, h3.ex e, h4⟩
def kTwo (i j : Nat) : List Key := [.inl (i : Int), .inl (j : Int)]
theorem kTwo_inj {i j i' j' : Nat} (h : kTwo i j = kTwo i' j') : i = i' ∧ j = j' := by
  unfold kTwo at h
  injection h with h1 h2
  injection h2 with h2
  injection h1 with h1
  injection h2 with h2
  omega
/-- what the dict holds is what is told -/
def Told (B : Hp) (ws : List V) (kvs : List (List Key × V)) : Prop := ∀ (way j : Nat) (v : V) (t r : Addr) (row : List Nat) (n : Nat), valV kvs (kTwo way j) = some v → ws[j]? = some (.ref t) → B t = some (.tup [.ref r, .int (n : Int)]) → B r = some (.lst (zv row)) → v = .str (askD way row n).shown
theorem Told.put {B : Hp} {ws : List V} {kvs : List (List Key × V)} {way j : Nat} {t r : Addr} {row : List Nat} {n : Nat} (h : Told B ws kvs) (h1 : ws[j]? = some (.ref t)) (h2 : B t = some (.tup [.ref r, .int (n : Int)])) (h3 : B r = some (.lst (zv row))) :
    Told B ws (putK kvs (kTwo way j) (.str (askD way row n).shown)) := fun way' j' v t' r' row' n' hv g1 g2 g3 => by
  rw [valV_put] at hv
  by_cases e : kTwo way' j' = kTwo way j
  · rw [if_pos e] at hv
    obtain ⟨rfl, rfl⟩ := kTwo_inj e
    rw [h1] at g1
    cases g1
    rw [h2] at g2
    injection g2 with g2
    injection g2 with g2
    injection g2 with g4 g5
    injection g4 with g4
    injection g5 with g5 _
    injection g5 with g5
    subst g4
    rw [h3] at g3
    injection g3 with g3
    injection g3 with g3
    rw [← zv_inj g3, show n' = n by omega]
    exact (Option.some.inj hv).symm
  · rw [if_neg e] at hv
    exact h way' j' v t' r' row' n' hv g1 g2 g3
theorem other_draw {K : PySem.W.Frag} {P : Program} {w : World} {B H : Hp} {L : List (Addr × List V)} {kvs : List (List Key × V)} {pd p : Addr} {d s m : Int} {Q : VK} {E : XK} (c : Ti P w B pd L kvs H) (i : Nat) (h : L[i]? = some (p, hd d s)) (ok : HdOk d s) (m0 : 0 < m ∧ m < 2 ^ 200)
    (k : ∀ (r d' s' : Int) (H2 : Hp), 0 ≤ r ∧ r < m → HdOk d' s' → Ti P w B pd (L.set i (p, hd d' s')) kvs H2 → Q (.int r) H2) : sp_law_draw K ([.ref p, .int m] ++ []) H Q E :=
  ⟨c.o.nod, p, d, s, m, rfl, c.o.atI i h, ok, m0.1, m0.2, fun r d' s' h0 h1 ok' => k r d' s' _ ⟨h0, h1⟩ ok' (c.mut i h)⟩
theorem q_frz {P : Program} {w : World} {s2 : TS} {n : Nat} {D : Ends} {σ : L2.St} {H : Hp} (k : ∀ p, H p = none → s2 D (σ.set n (some (.ref p))) (upd H p (dtH P w p []))) : tSeq (tFrz P w (tAsg tDNewT (gName n))) s2 D σ H :=
  fun p hp => ⟨p, [], upd_same, fun xs hk => by
    cases hk
    rw [upd_upd]
    exact k p hp⟩
/-! ### the law -/
def sp_law (K : PySem.W.Frag) : Sp := fun vs H Q _ => Nod H ∧ ∃ (a : Addr) (ns : List Int), vs = [.ref a] ∧ SqL K H a (ns.map V.int) ∧ ns.length ≤ 63 ∧ ∀ H', Q (.bl true) H'
/-- slots: script k cell hand worlds first turn at which row number handed told written j -/
abbrev n_law : List Str := ["script", "k", "cell", "hand", "worlds", "first", "turn", "at", "which", "row", "number", "handed", "told", "written", "j"]
def t_law (K : PySem.W.Frag) (P : Program) (w : World) : TS := (sFg (tSeq (tFor (iList K (tCall (sp_law_cells K) [] E0 (tCons (tVar 0) (tCons (tC (.int 3)) tNil)))) (gTup K 2 (gCons (gName 1) (gCons (gName 2) gNil))) (tSeq (tAsg (tCall (sp_law_hand K) [] E0 (tCons (tVar 2) (tCons (tVar 1) tNil))) (gName 3))
  (tSeq (tAsg (tLc (iRng1 (tCons (tC (.int 2)) tNil)) (gName 14) tYes (tTup (tCons (tCall (sp_law_row K) [] E0 (tCons (tVar 3) tNil)) (tCons (tOp oAdd (tC (.int 1)) (tCall (sp_law_draw K) [] E0 (tCons (tVar 3) (tCons (tC (.int 1000)) tNil)))) tNil))) [14]) (gName 4))
  (tSeq (tFrz P w (tAsg tDNewT (gName 5)))
  (tFor (iRng1 (tCons (tC (.int 25)) tNil)) (gName 6) (tSeq (tAsg (tCall (sp_law_draw K) [] E0 (tCons (tVar 3) (tCons (tC (.int 5)) tNil))) (gName 7))
  (tSeq (tAsg (tCall (sp_law_draw K) [] E0 (tCons (tVar 3) (tCons (tC (.int 2)) tNil))) (gName 8))
  (tSeq (tAsg (tOp (rIxL K) (tVar 4) (tVar 8)) (gTup K 2 (gCons (gName 9) (gCons (gName 10) gNil))))
  (tSeq (tAsg (tCB (cList K) (tCons (tVar 9) tNil)) (gName 11))
  (tSeq (tAsg (tCall (sp_law_askedG K) [] E0 (tCons (tVar 7) (tCons (tVar 11) (tCons (tVar 10) tNil)))) (gName 12))
  (tSeq (tAsg (tCB (cReprQ K) (tCons (tVar 12) tNil)) (gName 13))
  (tSeq (tThaw P w (tIfS (tOr (tTest (tOp (rNeD K) (tVar 11) (tVar 9))) (tTest (tOp rNe (tDGet2 (tVar 5) (tTup (tCons (tVar 7) (tCons (tVar 8) tNil))) (tVar 13)) (tVar 13)))) (tRet (tC (.bl false))) tNext))
  (tSeq (tThaw P w (sDPut (tVar 5) (tTup (tCons (tVar 7) (tCons (tVar 8) tNil))) (tVar 13)))
  (tSeq (tDrop (tBM K "list" rAppend (tVar 12) (tCons (tUn uNeg (tC (.int 1))) tNil)))
  (tSeq (tDrop (tBM0 K "list" rReverse (tVar 12)))
  (tSeq (tDrop (tBM K "list" rAppend (tVar 11) (tCons (tC (.int 2)) tNil)))
  (tIfS (tNot (tB (tCall (sp_law_refusedG K) [] E0 (tCons (tVar 9) (tCons (tVar 10) (tCons (tVar 6) tNil)))))) (tRet (tC (.bl false))) tNext)))))))))))))))))
  (tRet (tC (.bl true)))))
theorem r_law {K : PySem.W.Frag} {P : Program} {w : World} {vs : List V} {H : Hp} {Q : VK} {E : XK} (h : sp_law K vs H Q E) : t_law K P w { nx := fun _ H' => Q .non H', rt := Q } (start n_law vs) H := by
  obtain ⟨nd, a, ns, rfl, ha, hl, q⟩ := h
  refine fg_body ?_
  refine for_cells (m := 3) (ea_2 (ev_v 0) ev_c) ha hl (fun σ' => ∃ y1 y2 y3 y4 y5 y6 y7 y8 y9 y10 y11 y12 y13 : Option V, σ' = [some (.ref a), y1, y2, y3, y4, y5, y6, y7, y8, y9, y10, y11, y12, y13, none]) ⟨_, _, _, _, _, _, _, _, _, _, _, _, _, rfl⟩ (fun H1 eH1 k cc σ' H' k0 k1 hP e hnd => ?_) fun σ' H' hP e hnd => ?_
  rotate_left
  · obtain ⟨y1, y2, y3, y4, y5, y6, y7, y8, y9, y10, y11, y12, y13, rfl⟩ := hP
    exact s_ret ev_c ⟨_, fg_same e, q _⟩
  obtain ⟨y1, y2, y3, y4, y5, y6, y7, y8, y9, y10, y11, y12, y13, rfl⟩ := hP
  refine q_setW (w_callW (w_cons (w_v 2 (w_one (w_v 1 ⟨hnd, cc, k, rfl, k0, by omega, fun pa d s hpa ok => ?_⟩)))))
  have o : Own H' [(pa, hd d s)] (upd H' pa (.lst (hd d s))) := Own.nil.new hpa
  -- worlds
  refine q_setW (w_lcR (k := 2) (ea_1 ev_c) (by omega) (fun D i H4 => ∃ (B2 : Hp) (acc : List V) (d s : Int), Own B2 [(D, acc), (pa, hd d s)] H4 ∧ HdOk d s ∧ Ex H' B2 ∧ acc.length = i ∧ ∀ x ∈ acc, WorldAt B2 x) (fun D hD => ⟨H', [], d, s, o.new hD, ok, ex_refl, rfl, fun x hx => (List.not_mem_nil hx).elim⟩) (fun _ => rfl) (fun D i H4 hD hi hv => ?_) fun pw H4 hpw hv => ?_)
  · clear o ok
    obtain ⟨B2, acc, d, s, o, ok, e2, hal, hacc⟩ := hv
    refine w_tupW (w_cons (w_callW (w_one (w_v 3 ?_))))
    refine o.rowB 1 rfl ok fun pr row d s H5 w hne ok o => ?_
    replace o : Own B2 [(pr, zv row), (D, acc), (pa, hd d s)] H5 := o
    obtain ⟨B3, e3, o, hr⟩ := o.give
    refine w_one (w_op (w_c (w_callW (w_cons (w_v 3 (w_one (w_c ?_)))))))
    refine o.draw 1 rfl ok (by omega) fun ni d s H6 hni ok o => ?_
    obtain ⟨n, rfl⟩ : ∃ n : Nat, ni = (n : Int) := ⟨ni.toNat, by omega⟩
    replace o : Own B3 [(D, acc), (pa, hd d s)] H6 := o
    refine r_add ⟨by show 2 ≤ sizeLine; decide, fun t ht => ?_⟩
    rw [show (1 : Int) + (n : Int) = ((n + 1 : Nat) : Int) by omega]
    have htB := ex_none o.ex ht
    replace o := o.tupB (xs := [.ref pr, .int ((n + 1 : Nat) : Int)]) ht
    refine ⟨acc, o.atI 0 rfl, szl (by omega), upd B3 t (.tup [.ref pr, .int ((n + 1 : Nat) : Int)]), acc ++ [V.ref t], d, s, o.mut (ys := acc ++ [V.ref t]) 0 rfl, ok, ex_trans e2 (ex_trans e3 (ex_new htB)), by rw [List.length_append, hal]; rfl, fun x hx => ?_⟩
    rcases List.mem_append.mp hx with z | z
    · exact (hacc x z).ex (ex_trans e3 (ex_new htB))
    · rw [List.mem_singleton.mp z]
      exact ⟨t, pr, row, n + 1, rfl, upd_same, ⟨ex_new htB _ _ hr, w, hne⟩, by omega, by omega⟩
  clear o ok
  obtain ⟨B2, ws, d, s, o, ok, e2, hwl, hws⟩ := hv
  replace hwl : ws.length = 2 := hwl
  obtain ⟨B, e3, o, hw⟩ := o.give
  replace hws : ∀ x ∈ ws, WorldAt B x := fun x hx => (hws x hx).ex e3
  have eB : Ex H' B := ex_trans e2 e3
  clear hpw e2 e3
  -- first
  refine q_frz fun pd hpd => ?_
  have hBd := ex_none o.ex hpd
  replace o := o.any (ex_new (o := dtH P w pd []) hpd) (nod_upd o.nod trivial)
  have c : Ti P w B pd [(pa, hd d s)] [] (upd H4 pd (dtH P w pd [])) := ⟨o, hBd, [], upd_same, .nil⟩
  clear o
  refine s_forR1 (k := 25) (ea_1 ev_c) (by omega) (fun i σ' H5 => ∃ (y6 y7 y8 y9 y10 y11 y12 y13 : Option V) (d s : Int) (kvs : List (List Key × V)), σ' = [some (.ref a), some (.int k), some (.int cc), some (.ref pa), some (.ref pw), some (.ref pd), y6, y7, y8, y9, y10, y11, y12, y13, none] ∧ HdOk d s ∧ Ti P w B pd [(pa, hd d s)] kvs H5 ∧ kvs.length ≤ i ∧ Told B ws kvs) ⟨_, _, _, _, _, _, _, _, d, s, [], rfl, ok, c, Nat.le_refl _, fun way j v t r row n hv => by cases hv⟩ (fun i σ' H5 hi hI => ?_) fun σ' H5 hI => ?_
  rotate_left
  · clear c
    obtain ⟨y6, y7, y8, y9, y10, y11, y12, y13, d, s, kvs, rfl, ok, c, _⟩ := hI
    exact ⟨⟨_, _, _, _, _, _, _, _, _, _, _, _, _, rfl⟩, ex_trans e (ex_trans eB c.o.ex), c.o.nod⟩
  clear c ok
  obtain ⟨y6, y7, y8, y9, y10, y11, y12, y13, d, s, kvs, rfl, ok, c, hkl, told⟩ := hI
  -- at, which
  refine q_setW (w_callW (w_cons (w_v 3 (w_one (w_c ?_)))))
  refine other_draw c 0 rfl ok (by omega) fun wi d s H6 hwi ok c => ?_
  obtain ⟨way, rfl⟩ : ∃ way : Nat, wi = (way : Int) := ⟨wi.toNat, by omega⟩
  replace c : Ti P w B pd [(pa, hd d s)] kvs H6 := c
  refine q_setW (w_callW (w_cons (w_v 3 (w_one (w_c ?_)))))
  refine other_draw c 0 rfl ok (by omega) fun ji d s H7 hji ok c => ?_
  obtain ⟨j, rfl⟩ : ∃ j : Nat, ji = (j : Int) := ⟨ji.toNat, by omega⟩
  replace c : Ti P w B pd [(pa, hd d s)] kvs H7 := c
  -- row, number
  have hj : j < ws.length := by omega
  obtain ⟨t, r, row, n, hx, ht, rr, n1, n2⟩ := hws ws[j] (List.getElem_mem hj)
  have hget : ws[j]? = some (.ref t) := by rw [List.getElem?_eq_getElem hj, hx]
  refine q_asg (w_op (w_v 4 (w_v 8 (r_ix (sq_at (c.o.ex _ _ hw)) (atI_nat hget) ⟨t, _, rfl, st_at (c.o.ex _ _ ht), rfl, _, _, rfl, _, _, rfl, rfl, ?_⟩))))
  -- handed, told, written
  refine q_setL (el_list (ev_v 9) (sq_at (c.o.ex _ _ rr.at_))) fun ph hph => ?_
  replace c := c.new (xs := zv row) hph
  refine q_setW (w_callW (w_cons (w_v 7 (w_cons (w_v 11 (w_one (w_v 10 ⟨c.o.nod, way, n, ph, row, rfl, by omega, ⟨c.o.atI 0 rfl, rr.w, rr.ne⟩, n1, n2, fun pt xs H8 hpt hat hlx e8 n8 sh => ?_⟩)))))))
  replace c := c.adopt e8 n8 hpt hat
  refine q_setW (w_cb (w_one (w_v 12 (w_reprQ sh ?_))))
  clear hat e8 n8 sh hpt hph
  -- the tests
  obtain ⟨zs, hpd8, hkt⟩ := c.dt
  have ne8 : ∀ {b : Addr} {l : List V}, H8 b = some (.lst l) → b ≠ pd := fun h z => by rw [z, hpd8] at h; cases h
  have hph8 := c.o.atI 1 rfl
  have hpr8 := c.o.ex _ _ rr.at_
  have hgd : (valV kvs (kTwo way j)).getD (.str (askD way row n).shown) = .str (askD way row n).shown := by
    cases hv : valV kvs (kTwo way j) with
    | none => rfl
    | some v => exact told way j v t r row n hv hget ht rr.at_
  refine q_seq ⟨pd, zs, kvs, hpd8, hkt, s_ifW (w_or (w_tst (w_op (w_v 11 (w_v 9 (rv_neI (ns := zl row) (ms := zl row) (sq_at (by rw [upd_ne (ne8 hph8)]; exact hph8)) (sq_at (by rw [upd_ne (ne8 hpr8)]; exact hpr8)) _ ⟨_, rfl, ?_⟩))))))⟩
  rw [show (!decide (zl row = zl row)) = false by simp]
  refine iteF (w_tst (w_op (w_v 5 ⟨pd, rfl, .inr ⟨kvs, .inl upd_same⟩, w_tupW (w_cons (w_v 7 (w_one (w_v 8 ⟨by show 2 ≤ sizeLine; decide, fun tk htk => ?_⟩))))⟩)))
  have htk1 : tk ≠ pd := fun z => by rw [z, upd_same] at htk; cases htk
  have htk0 : H8 tk = none := by rw [upd_ne htk1] at htk; exact htk
  have hd8 : upd (upd H8 pd (.dT kvs)) tk (.tup [.int (way : Int), .int (j : Int)]) pd = some (.dT kvs) := by rw [upd_ne (Ne.symm htk1)]; exact upd_same
  refine w_v 13 ⟨valV kvs (kTwo way j), DGet.t (k := kTwo way j) hd8 upd_same, ?_⟩
  rw [hgd]
  refine w_v 13 ⟨rfl, _, rfl, ?_⟩
  rw [show (!decide (V.str (askD way row n).shown = V.str (askD way row n).shown)) = false by simp]
  refine iteF ⟨kvs, hd8, fun xs2 hk2 => ?_⟩
  replace c := c.thawed (zs := [.int (way : Int), .int (j : Int)]) (tk := tk) htk0 (fun b hb => by
    by_cases z : b = tk
    · rw [z, upd_same, upd_same]
    · rw [upd_ne z, upd_ne hb, upd_ne z]) (fun us z => by rw [hd8] at z; cases z) hk2
  clear hd8 htk1 htk0 htk hph8 hpr8 ne8 hkt hpd8 hgd
  generalize upd (upd (upd H8 pd _) tk _) pd _ = H9 at c ⊢
  -- first[(at, which)] = written
  obtain ⟨zs9, hpd9, hkt9⟩ := c.dt
  refine q_seq ⟨pd, zs9, kvs, hpd9, hkt9, w_v 13 (w_v 5 (w_tupW (w_cons (w_v 7 (w_one (w_v 8 ⟨by show 2 ≤ sizeLine; decide, fun tk htk => ?_⟩))))))⟩
  have htk1 : tk ≠ pd := fun z => by rw [z, upd_same] at htk; cases htk
  have htk0 : H9 tk = none := by rw [upd_ne htk1] at htk; exact htk
  have hd8 : upd (upd H9 pd (.dT kvs)) tk (.tup [.int (way : Int), .int (j : Int)]) pd = some (.dT kvs) := by rw [upd_ne (Ne.symm htk1)]; exact upd_same
  refine ⟨pd, _, rfl, DPut.t (k := kTwo way j) hd8 upd_same (szl (by omega)), _, upd_same, fun xs3 hk3 => ?_⟩
  replace c := c.thawed (zs := [.int (way : Int), .int (j : Int)]) (tk := tk) htk0 (fun b hb => by
    by_cases z : b = tk
    · rw [upd_ne hb, z, upd_same, upd_same]
    · rw [upd_ne hb, upd_ne z, upd_ne hb, upd_ne z]) (fun us z => by rw [upd_same] at z; cases z) hk3
  clear hd8 htk1 htk0 htk hkt9 hpd9
  generalize upd (upd (upd (upd H9 pd _) tk _) pd _) pd _ = H10 at c ⊢
  -- told, handed are changed
  refine q_drop (w_appR (ev_v 12) (c.o.sqi 0 rfl) (w_one (w_ev (ev_neg ev_c) ⟨pt, xs, _, rfl, rfl, c.o.atI 0 rfl, szl (by omega), ?_⟩)))
  replace c := c.mut (ys := xs ++ [V.int (-1)]) 0 rfl
  refine q_drop (w_revR (ev_v 12) (c.o.sqi 0 rfl) ⟨pt, xs ++ [V.int (-1)], rfl, rfl, c.o.atI 0 rfl, ?_⟩)
  replace c := c.mut (ys := (xs ++ [V.int (-1)]).reverse) 0 rfl
  refine q_seq (s_app (c.o.atI 1 rfl) (by rw [zv_len]; have := rr.w.le; exact szl (by omega)) (ev_v 11) ev_c ?_)
  replace c := c.mut (ys := zv row ++ [V.int 2]) 1 rfl
  refine s_ifP (ep_not (ep_b (ev_call (v := .bl true) (ea_3 (ev_v 9) (ev_v 10) (ev_v 6)) fun Q q => ⟨c.o.nod, r, row, n, i, rfl, rr.ex c.o.ex, n1, n2, q⟩))) (fun z => absurd rfl z) fun _ => ?_
  exact ⟨_, _, _, _, _, _, _, _, d, s, _, rfl, ok, c.sub (((List.Sublist.refl _).cons _).cons _), Nat.le_trans (length_putK _ _ _) (by omega), told.put hget ht rr.at_⟩
end Px
set_option Elab.async false
set_option linter.all false
set_option maxRecDepth 100000
set_option maxHeartbeats 0
namespace K32
open PySem PySem.Spec PyProof.Rows L2 Px
def top (i : Nat) : Stmt := PySem.Challenge.pw_smallparts_k32_whole_again_and_shared.main.body.getD i (.Pass ⟨0, 0, 0, 0⟩)
abbrev s_law_cells : Stmt := top 39
abbrev N_law_cells : List Str := ["script", "many"]
theorem sc_law_cells : FnScope N_law_cells ["script", "many"] (defScope s_law_cells) := ⟨rfl, rfl, rfl, by decide +kernel, rfl, by decide +kernel, by decide +kernel⟩
abbrev s_law_hand : Stmt := top 37
abbrev N_law_hand : List Str := ["cell", "k", "digits"]
theorem sc_law_hand : FnScope N_law_hand ["cell", "k"] (defScope s_law_hand) := ⟨rfl, rfl, rfl, by decide +kernel, rfl, by decide +kernel, by decide +kernel⟩
abbrev s_law_draw : Stmt := top 38
abbrev N_law_draw : List Str := ["hand", "limit", "got"]
theorem sc_law_draw : FnScope N_law_draw ["hand", "limit"] (defScope s_law_draw) := ⟨rfl, rfl, rfl, by decide +kernel, rfl, by decide +kernel, by decide +kernel⟩
abbrev s_is_wholeX : Stmt := top 7
abbrev N_is_wholeX : List Str := ["thing"]
theorem sc_is_wholeX : FnScope N_is_wholeX ["thing"] (defScope s_is_wholeX) := ⟨rfl, rfl, rfl, by decide +kernel, rfl, by decide +kernel, by decide +kernel⟩
abbrev s_is_rowX : Stmt := top 8
abbrev N_is_rowX : List Str := ["thing", "one", "further"]
theorem sc_is_rowX : FnScope N_is_rowX ["thing"] (defScope s_is_rowX) := ⟨rfl, rfl, rfl, by decide +kernel, rfl, by decide +kernel, by decide +kernel⟩
abbrev s_need_rowX : Stmt := top 9
abbrev N_need_rowX : List Str := ["row"]
theorem sc_need_rowX : FnScope N_need_rowX ["row"] (defScope s_need_rowX) := ⟨rfl, rfl, rfl, by decide +kernel, rfl, by decide +kernel, by decide +kernel⟩
abbrev s_is_made : Stmt := top 10
abbrev N_is_made : List Str := ["row", "number", "prime"]
theorem sc_is_made : FnScope N_is_made ["row", "number"] (defScope s_is_made) := ⟨rfl, rfl, rfl, by decide +kernel, rfl, by decide +kernel, by decide +kernel⟩
abbrev s_is_made_ofX : Stmt := top 11
abbrev N_is_made_ofX : List Str := ["row", "thing"]
theorem sc_is_made_ofX : FnScope N_is_made_ofX ["row", "thing"] (defScope s_is_made_ofX) := ⟨rfl, rfl, rfl, by decide +kernel, rfl, by decide +kernel, by decide +kernel⟩
abbrev s_made_toN : Stmt := top 13
abbrev N_made_toN : List Str := ["row", "bound", "found", "prime", "ahead", "number"]
theorem sc_made_toN : FnScope N_made_toN ["row", "bound"] (defScope s_made_toN) := ⟨rfl, rfl, rfl, by decide +kernel, rfl, by decide +kernel, by decide +kernel⟩
abbrev s_neighboursX : Stmt := top 15
abbrev N_neighboursX : List Str := ["row", "bound", "found", "firsts", "one", "other", "number"]
theorem sc_neighboursX : FnScope N_neighboursX ["row", "bound"] (defScope s_neighboursX) := ⟨rfl, rfl, rfl, by decide +kernel, rfl, by decide +kernel, by decide +kernel⟩
abbrev s_greatest_to : Stmt := top 19
abbrev N_greatest_to : List Str := ["bound", "found", "number", "times"]
theorem sc_greatest_to : FnScope N_greatest_to ["bound"] (defScope s_greatest_to) := ⟨rfl, rfl, rfl, by decide +kernel, rfl, by decide +kernel, by decide +kernel⟩
abbrev s_by_greatest : Stmt := top 20
abbrev N_by_greatest : List Str := ["bound", "found", "part"]
theorem sc_by_greatest : FnScope N_by_greatest ["bound"] (defScope s_by_greatest) := ⟨rfl, rfl, rfl, by decide +kernel, rfl, by decide +kernel, by decide +kernel⟩
abbrev s_made_to : Stmt := top 24
abbrev N_made_to : List Str := ["row", "bound", "found", "prime", "at"]
theorem sc_made_to : FnScope N_made_to ["row", "bound"] (defScope s_made_to) := ⟨rfl, rfl, rfl, by decide +kernel, rfl, by decide +kernel, by decide +kernel⟩
abbrev s_grown : Stmt := top 27
abbrev N_grown : List Str := ["number", "prime", "bound"]
theorem sc_grown : FnScope N_grown ["number", "prime", "bound"] (defScope s_grown) := ⟨rfl, rfl, rfl, by decide +kernel, rfl, by decide +kernel, by decide +kernel⟩
abbrev s_next_oneX : Stmt := top 28
abbrev N_next_oneX : List Str := ["row", "number", "best", "rest"]
theorem sc_next_oneX : FnScope N_next_oneX ["row", "number"] (defScope s_next_oneX) := ⟨rfl, rfl, rfl, by decide +kernel, rfl, by decide +kernel, by decide +kernel⟩
abbrev s_last_oneX : Stmt := top 29
abbrev N_last_oneX : List Str := ["row", "number", "rest"]
theorem sc_last_oneX : FnScope N_last_oneX ["row", "number"] (defScope s_last_oneX) := ⟨rfl, rfl, rfl, by decide +kernel, rfl, by decide +kernel, by decide +kernel⟩
abbrev s_nearestX : Stmt := top 32
abbrev N_nearestX : List Str := ["row", "number", "above", "below"]
theorem sc_nearestX : FnScope N_nearestX ["row", "number"] (defScope s_nearestX) := ⟨rfl, rfl, rfl, by decide +kernel, rfl, by decide +kernel, by decide +kernel⟩
abbrev s_product_of : Stmt := top 33
abbrev N_product_of : List Str := ["prime", "many", "found", "turn"]
theorem sc_product_of : FnScope N_product_of ["prime", "many"] (defScope s_product_of) := ⟨rfl, rfl, rfl, by decide +kernel, rfl, by decide +kernel, by decide +kernel⟩
abbrev s_least_from : Stmt := top 34
abbrev N_least_from : List Str := ["row", "many", "number", "least", "some", "power", "taken", "rest"]
theorem sc_least_from : FnScope N_least_from ["row", "many", "number"] (defScope s_least_from) := ⟨rfl, rfl, rfl, by decide +kernel, rfl, by decide +kernel, by decide +kernel⟩
abbrev s_least_of_manyX : Stmt := top 35
abbrev N_least_of_manyX : List Str := ["row", "many", "number", "found"]
theorem sc_least_of_manyX : FnScope N_least_of_manyX ["row", "many", "number"] (defScope s_least_of_manyX) := ⟨rfl, rfl, rfl, by decide +kernel, rfl, by decide +kernel, by decide +kernel⟩
abbrev s_last_neighbourX : Stmt := top 16
abbrev N_last_neighbourX : List Str := ["row", "bound", "found"]
theorem sc_last_neighbourX : FnScope N_last_neighbourX ["row", "bound"] (defScope s_last_neighbourX) := ⟨rfl, rfl, rfl, by decide +kernel, rfl, by decide +kernel, by decide +kernel⟩
abbrev s_many_neighboursX : Stmt := top 17
abbrev N_many_neighboursX : List Str := ["row", "bound"]
theorem sc_many_neighboursX : FnScope N_many_neighboursX ["row", "bound"] (defScope s_many_neighboursX) := ⟨rfl, rfl, rfl, by decide +kernel, rfl, by decide +kernel, by decide +kernel⟩
abbrev s_many_with : Stmt := top 21
abbrev N_many_with : List Str := ["bound", "most", "part", "count"]
theorem sc_many_with : FnScope N_many_with ["bound", "most"] (defScope s_many_with) := ⟨rfl, rfl, rfl, by decide +kernel, rfl, by decide +kernel, by decide +kernel⟩
abbrev s_least_boundX : Stmt := top 22
abbrev N_least_boundX : List Str := ["bound", "many", "left", "part", "count"]
theorem sc_least_boundX : FnScope N_least_boundX ["bound", "many"] (defScope s_least_boundX) := ⟨rfl, rfl, rfl, by decide +kernel, rfl, by decide +kernel, by decide +kernel⟩
abbrev s_law_askedG : Stmt := top 43
abbrev N_law_askedG : List Str := ["at", "row", "number"]
theorem sc_law_askedG : FnScope N_law_askedG ["at", "row", "number"] (defScope s_law_askedG) := ⟨rfl, rfl, rfl, by decide +kernel, rfl, by decide +kernel, by decide +kernel⟩
abbrev s_law_row : Stmt := top 40
abbrev N_law_row : List Str := ["hand", "primes", "many", "way", "at", "left", "found", "k"]
theorem sc_law_row : FnScope N_law_row ["hand"] (defScope s_law_row) := ⟨rfl, rfl, rfl, by decide +kernel, rfl, by decide +kernel, by decide +kernel⟩
abbrev s_law_refusedG : Stmt := top 44
abbrev N_law_refusedG : List Str := ["row", "drawn", "turn", "caught", "number"]
theorem sc_law_refusedG : FnScope N_law_refusedG ["row", "drawn", "turn"] (defScope s_law_refusedG) := ⟨rfl, rfl, rfl, by decide +kernel, rfl, by decide +kernel, by decide +kernel⟩
abbrev s_law : Stmt := top 45
abbrev N_law : List Str := ["script", "k", "cell", "hand", "worlds", "first", "turn", "at", "which", "row", "number", "handed", "told", "written", "j"]
theorem sc_law : FnScope N_law ["script"] (defScope s_law) := ⟨rfl, rfl, rfl, by decide +kernel, rfl, by decide +kernel, by decide +kernel⟩
section
variable {P : Program} {w : World} {K : PySem.W.Frag} {mg : Str → Option Value} {base : Heap} {f : Addr} {fd : FuncData}
theorem ok_law_cells (F : FnP K "_law_cells" s_law_cells f fd) (g : mg "_law_cells" = some (.ref f)) (m_enumerate : mg "enumerate" = none) (m_int : mg "int" = none) (m_list : mg "list" = none) : Fn P w K mg base "_law_cells" 1 ["script", "many"] (sp_law_cells K) := by
  refine ⟨f, fd, F.ok (k := 0) sc_law_cells (fun vs H Q E h => by first | (obtain ⟨_, _, rfl, _⟩ := h; rfl) | (obtain ⟨_, _, _, rfl, _⟩ := h; rfl) | (obtain ⟨_, _, _, _, rfl, _⟩ := h; rfl) | (obtain ⟨_, _, _, _, _, rfl, _⟩ := h; rfl) | (obtain ⟨_, _, _, _, _, _, rfl, _⟩ := h; rfl) | (obtain ⟨_, _, _, _, _, _, _, rfl, _⟩ := h; rfl) | (obtain ⟨_, _, _, _, _, _, _, _, rfl, _⟩ := h; rfl) | (obtain ⟨_, _, _, _, _, _, _, _, _, rfl, _⟩ := h; rfl) | (obtain ⟨_, _, _, _, _, _, _, _, _, _, rfl, _⟩ := h; rfl) | (obtain ⟨_, _, _, _, _, _, _, _, _, _, _, rfl, _⟩ := h; rfl) | (obtain ⟨_, _, _, _, _, _, _, _, _, _, _, _, rfl, _⟩ := h; rfl) | (obtain ⟨_, _, _, _, _, _, _, _, _, _, _, _, _, rfl, _⟩ := h; rfl) | (obtain ⟨_, _, _, _, _, _, _, _, _, _, _, _, _, _, rfl, _⟩ := h; rfl) | (obtain ⟨_, _, _, _, _, _, _, _, _, _, _, _, _, _, _, rfl, _⟩ := h; rfl)) (fun cdv A outer s H vs Q E hr h => ⟨t_law_cells K, PSs.nox ?_, r_law_cells h⟩), g, F.kp, F.bindsN fun _ _ _ _ _ _ us hl => match us, hl with | [_, _], _ => rfl⟩
  exact (pss_fg (pss_one (ps_ret (pe_listEnum (by rfl) m_list (by rfl) m_enumerate rfl (pa_cons (pe_op op_cat (pe_slice sl_list (pv 0) po_none (po_some (pv 1))) (pe_op op_rep (pe_lst (pa_cons pe_int pa_nil)) (pe_callTy call_int1 (by rfl) m_int (by decide +kernel) (pa_cons (pe_cmpR (op_eqD hr.units) (pv 0) (pe_lst pa_nil) (nomark _)) pa_nil)))) pa_nil)))))
theorem ok_law_hand (F : FnP K "_law_hand" s_law_hand f fd) (g : mg "_law_hand" = some (.ref f))  : Fn P w K mg base "_law_hand" 1 ["cell", "k"] (sp_law_hand K) := by
  refine ⟨f, fd, F.ok (k := 0) sc_law_hand (fun vs H Q E h => by first | (obtain ⟨_, _, rfl, _⟩ := h; rfl) | (obtain ⟨_, _, _, rfl, _⟩ := h; rfl) | (obtain ⟨_, _, _, _, rfl, _⟩ := h; rfl) | (obtain ⟨_, _, _, _, _, rfl, _⟩ := h; rfl) | (obtain ⟨_, _, _, _, _, _, rfl, _⟩ := h; rfl) | (obtain ⟨_, _, _, _, _, _, _, rfl, _⟩ := h; rfl) | (obtain ⟨_, _, _, _, _, _, _, _, rfl, _⟩ := h; rfl) | (obtain ⟨_, _, _, _, _, _, _, _, _, rfl, _⟩ := h; rfl) | (obtain ⟨_, _, _, _, _, _, _, _, _, _, rfl, _⟩ := h; rfl) | (obtain ⟨_, _, _, _, _, _, _, _, _, _, _, rfl, _⟩ := h; rfl) | (obtain ⟨_, _, _, _, _, _, _, _, _, _, _, _, rfl, _⟩ := h; rfl) | (obtain ⟨_, _, _, _, _, _, _, _, _, _, _, _, _, rfl, _⟩ := h; rfl) | (obtain ⟨_, _, _, _, _, _, _, _, _, _, _, _, _, _, rfl, _⟩ := h; rfl) | (obtain ⟨_, _, _, _, _, _, _, _, _, _, _, _, _, _, _, rfl, _⟩ := h; rfl)) (fun cdv A outer s H vs Q E hr h => ⟨t_law_hand K, PSs.nox ?_, r_law_hand h⟩), g, F.kp, F.bindsN fun _ _ _ _ _ _ us hl => match us, hl with | [_, _], _ => rfl⟩
  exact (pss_fg (pss_cons (ps_set (i := 2) sc_law_hand.nd rfl (Or.inl rfl) pe_int)
      (pss_cons (ps_if (pt_cmpR op_ge (pv 0) (pe_op op_pow pe_int pe_int) (nomark _)) (pss_one (ps_set (i := 2) sc_law_hand.nd rfl (Or.inl rfl) (pv 0))) pss_nil)
      (pss_one (ps_ret (pe_lst (pa_cons (pv 2) (pa_cons (pe_op op_mod (pe_op op_mulW (pe_op op_add (pe_op op_add (pe_op op_mod (pv 0) pe_int) (pe_op op_mulW pe_int (pv 1))) pe_int) pe_int) pe_int) pa_nil))))))))
theorem ok_law_draw (F : FnP K "_law_draw" s_law_draw f fd) (g : mg "_law_draw" = some (.ref f))  : Fn P w K mg base "_law_draw" 1 ["hand", "limit"] (sp_law_draw K) := by
  refine ⟨f, fd, F.ok (k := 0) sc_law_draw (fun vs H Q E h => by first | (obtain ⟨_, _, rfl, _⟩ := h; rfl) | (obtain ⟨_, _, _, rfl, _⟩ := h; rfl) | (obtain ⟨_, _, _, _, rfl, _⟩ := h; rfl) | (obtain ⟨_, _, _, _, _, rfl, _⟩ := h; rfl) | (obtain ⟨_, _, _, _, _, _, rfl, _⟩ := h; rfl) | (obtain ⟨_, _, _, _, _, _, _, rfl, _⟩ := h; rfl) | (obtain ⟨_, _, _, _, _, _, _, _, rfl, _⟩ := h; rfl) | (obtain ⟨_, _, _, _, _, _, _, _, _, rfl, _⟩ := h; rfl) | (obtain ⟨_, _, _, _, _, _, _, _, _, _, rfl, _⟩ := h; rfl) | (obtain ⟨_, _, _, _, _, _, _, _, _, _, _, rfl, _⟩ := h; rfl) | (obtain ⟨_, _, _, _, _, _, _, _, _, _, _, _, rfl, _⟩ := h; rfl) | (obtain ⟨_, _, _, _, _, _, _, _, _, _, _, _, _, rfl, _⟩ := h; rfl) | (obtain ⟨_, _, _, _, _, _, _, _, _, _, _, _, _, _, rfl, _⟩ := h; rfl) | (obtain ⟨_, _, _, _, _, _, _, _, _, _, _, _, _, _, _, rfl, _⟩ := h; rfl)) (fun cdv A outer s H vs Q E hr h => ⟨t_law_draw K, PSs.nox ?_, r_law_draw h⟩), g, F.kp, F.bindsN fun _ _ _ _ _ _ us hl => match us, hl with | [_, _], _ => rfl⟩
  exact (pss_fg (pss_cons (ps_if (pt_cmpR op_gt (pe_ix ix_list (pv 0) pe_int (fun _ _ => rfl)) pe_int (nomark _)) (pss_cons (ps_set (i := 2) sc_law_draw.nd rfl (Or.inl rfl) (pe_op op_mod (pe_ix ix_list (pv 0) pe_int (fun _ _ => rfl)) (pv 1)))
      (pss_cons (ps_asg (pe_op op_fdivW (pe_ix ix_list (pv 0) pe_int (fun _ _ => rfl)) (pv 1)) (pg_sub (pv 0) pe_int set_list))
      (pss_one (ps_ret (pv 2))))) pss_nil)
      (pss_cons (ps_asg (pe_op op_mod (pe_op op_add (pe_op op_add (pe_op op_mulW (pe_ix ix_list (pv 0) pe_int (fun _ _ => rfl)) (pe_ix ix_list (pv 0) pe_int (fun _ _ => rfl))) (pe_op op_mulW pe_int (pe_ix ix_list (pv 0) pe_int (fun _ _ => rfl)))) pe_int) pe_int) (pg_sub (pv 0) pe_int set_list))
      (pss_one (ps_ret (pe_op op_mod (pe_op op_fdivW (pe_ix ix_list (pv 0) pe_int (fun _ _ => rfl)) pe_int) (pv 1)))))))
theorem ok_is_wholeX (F : FnP K "is_whole" s_is_wholeX f fd) (g : mg "is_whole" = some (.ref f)) (m_bool : mg "bool" = none) (m_int : mg "int" = none) (m_isinstance : mg "isinstance" = none) : Fn P w K mg base "is_whole" 1 ["thing"] (sp_is_wholeX K) := by
  refine ⟨f, fd, F.ok (k := 0) sc_is_wholeX (fun vs H Q E h => by first | (obtain ⟨_, _, rfl, _⟩ := h; rfl) | (obtain ⟨_, _, _, rfl, _⟩ := h; rfl) | (obtain ⟨_, _, _, _, rfl, _⟩ := h; rfl) | (obtain ⟨_, _, _, _, _, rfl, _⟩ := h; rfl) | (obtain ⟨_, _, _, _, _, _, rfl, _⟩ := h; rfl) | (obtain ⟨_, _, _, _, _, _, _, rfl, _⟩ := h; rfl) | (obtain ⟨_, _, _, _, _, _, _, _, rfl, _⟩ := h; rfl) | (obtain ⟨_, _, _, _, _, _, _, _, _, rfl, _⟩ := h; rfl) | (obtain ⟨_, _, _, _, _, _, _, _, _, _, rfl, _⟩ := h; rfl) | (obtain ⟨_, _, _, _, _, _, _, _, _, _, _, rfl, _⟩ := h; rfl) | (obtain ⟨_, _, _, _, _, _, _, _, _, _, _, _, rfl, _⟩ := h; rfl) | (obtain ⟨_, _, _, _, _, _, _, _, _, _, _, _, _, rfl, _⟩ := h; rfl) | (obtain ⟨_, _, _, _, _, _, _, _, _, _, _, _, _, _, rfl, _⟩ := h; rfl) | (obtain ⟨_, _, _, _, _, _, _, _, _, _, _, _, _, _, _, rfl, _⟩ := h; rfl)) (fun cdv A outer s H vs Q E hr h => ⟨t_is_wholeX K, PSs.nox ?_, r_is_wholeX h⟩), g, F.kp, F.bindsN fun _ _ _ _ _ _ us hl => match us, hl with | [_], _ => rfl⟩
  exact (pss_fg (pss_one (ps_ret (pe_and (pe_callB call_isW (by rfl) m_isinstance (by decide +kernel) (pa_cons (pv 0) (pa_cons (pe_bltn (v := .ty "int") (by rfl) m_int (by decide +kernel) rfl) pa_nil))) (pe_one (pe_not (pe_callB call_isW (by rfl) m_isinstance (by decide +kernel) (pa_cons (pv 0) (pa_cons (pe_bltn (v := .ty "bool") (by rfl) m_bool (by decide +kernel) rfl) pa_nil)))))))))
theorem ok_is_rowX (F : FnP K "is_row" s_is_rowX f fd) (g : mg "is_row" = some (.ref f)) (F_is_wholeX : Fn P w K mg base "is_whole" 1 ["thing"] (sp_is_wholeX K)) (m_isinstance : mg "isinstance" = none) (m_len : mg "len" = none) (m_list : mg "list" = none) (m_zip : mg "zip" = none) (g_MOST_PRIMES : ∃ t, mg "MOST_PRIMES" = some (.int 6 t)) (g_PRIMES : mg "PRIMES" = some (.ref (He.ga K "PRIMES"))) (hP_PRIMES : PrAt K (He.ga K "PRIMES")) : Fn P w K mg base "is_row" 2 ["thing"] (sp_is_rowX K) := by
  obtain ⟨_, g_MOST_PRIMES⟩ := g_MOST_PRIMES
  refine ⟨f, fd, F.ok (k := 1) sc_is_rowX (fun vs H Q E h => by first | (obtain ⟨_, _, rfl, _⟩ := h; rfl) | (obtain ⟨_, _, _, rfl, _⟩ := h; rfl) | (obtain ⟨_, _, _, _, rfl, _⟩ := h; rfl) | (obtain ⟨_, _, _, _, _, rfl, _⟩ := h; rfl) | (obtain ⟨_, _, _, _, _, _, rfl, _⟩ := h; rfl) | (obtain ⟨_, _, _, _, _, _, _, rfl, _⟩ := h; rfl) | (obtain ⟨_, _, _, _, _, _, _, _, rfl, _⟩ := h; rfl) | (obtain ⟨_, _, _, _, _, _, _, _, _, rfl, _⟩ := h; rfl) | (obtain ⟨_, _, _, _, _, _, _, _, _, _, rfl, _⟩ := h; rfl) | (obtain ⟨_, _, _, _, _, _, _, _, _, _, _, rfl, _⟩ := h; rfl) | (obtain ⟨_, _, _, _, _, _, _, _, _, _, _, _, rfl, _⟩ := h; rfl) | (obtain ⟨_, _, _, _, _, _, _, _, _, _, _, _, _, rfl, _⟩ := h; rfl) | (obtain ⟨_, _, _, _, _, _, _, _, _, _, _, _, _, _, rfl, _⟩ := h; rfl) | (obtain ⟨_, _, _, _, _, _, _, _, _, _, _, _, _, _, _, rfl, _⟩ := h; rfl)) (fun cdv A outer s H vs Q E hr h => ⟨t_is_rowX K (He.ga K "PRIMES"), PSs.nox ?_, r_is_rowX hP_PRIMES h⟩), g, F.kp, F.bindsN fun _ _ _ _ _ _ us hl => match us, hl with | [_], _ => rfl⟩
  exact (pss_fg (pss_cons (ps_if (PW.pt (pw_or (pt_not (pt_val (pe_callB call_isW (by rfl) m_isinstance (by decide +kernel) (pa_cons (pv 0) (pa_cons (pe_bltn (v := .ty "list") (by rfl) m_list (by decide +kernel) rfl) pa_nil))))) (pw_or1 (pt_not (pt_chain op_le op_le pe_int (pe_callB call_len_seq (by rfl) m_len (by decide +kernel) (pa_cons (pv 0) pa_nil)) (pe_glob (by rfl) g_MOST_PRIMES ⟨_, rfl⟩)))))) (pss_one (ps_ret pe_bl)) pss_nil)
      (pss_cons (ps_if (pt_cmpR (op_neX hr.units) (pe_lc (own := [("one", 1)]) (g := (gName 1)) (tt := (tOr (tNot (tB (tCall (sp_is_wholeX K) [] E0 (tCons (tVar 1) tNil)))) (tTest (tOp (rIn K true) (tVar 1) (tC (.ref (He.ga K "PRIMES"))))))) rfl sc_is_rowX.nd (pi_list (pv 0)) (blkOk_by (N := N_is_rowX) (sc := defScope s_is_rowX) (by decide +kernel)) (fun _ _ _ _ _ => (pg_name (i := 1) sc_is_rowX.nd rfl (Or.inl rfl))) (fun _ _ _ _ _ => (pts_one (PW.pt (pw_or (pt_not (pt_val (pe_fn F_is_wholeX (hr.mono (by decide)) (pa_cons (pv 1) pa_nil)))) (pw_or1 (pt_cmpR op_notIn_seq (pv 1) (pe_glob (by rfl) g_PRIMES rfl) (by with_unfolding_all rfl))))))) (fun _ _ _ _ _ => (pv 1))) (pe_lst pa_nil) (nomark _)) (pss_one (ps_ret pe_bl)) pss_nil)
      (pss_one (ps_ret (pe_cmpR (op_eqD hr.units) (pe_lc (own := [("one", 1), ("further", 2)]) (g := (gTup K 2 (gCons (gName 1) (gCons (gName 2) gNil)))) (tt := (tTest (tOp oLe (tVar 2) (tVar 1)))) rfl sc_is_rowX.nd (pi_zip (by rfl) m_zip (pa_cons (pv 0) (pa_cons (pe_slice sl_list (pv 0) (po_some pe_int) po_none) pa_nil))) (blkOk_by (N := N_is_rowX) (sc := defScope s_is_rowX) (by decide +kernel)) (fun _ _ _ _ _ => (pg_tup rfl (pgs_cons (pg_name (i := 1) sc_is_rowX.nd rfl (Or.inl rfl)) (pgs_cons (pg_name (i := 2) sc_is_rowX.nd rfl (Or.inl rfl)) pgs_nil)))) (fun _ _ _ _ _ => (pts_one (pt_cmpR op_le (pv 2) (pv 1) (nomark _)))) (fun _ _ _ _ _ => pe_int)) (pe_lst pa_nil) (nomark _)))))))
theorem ok_need_rowX (F : FnP K "need_row" s_need_rowX f fd) (g : mg "need_row" = some (.ref f)) (F_is_rowX : Fn P w K mg base "is_row" 2 ["thing"] (sp_is_rowX K)) (g_NoPrimes : mg "NoPrimes" = some (.ref (He.ga K "NoPrimes"))) (hX : Errs2 K) : FnX P w K mg base "need_row" 3 ["row"] (sp_need_rowX K) := by
  refine ⟨f, fd, F.ok (CX := L2.CX P w) (k := 2) sc_need_rowX (fun vs H Q E h => by first | (obtain ⟨_, _, rfl, _⟩ := h; rfl) | (obtain ⟨_, _, _, rfl, _⟩ := h; rfl) | (obtain ⟨_, _, _, _, rfl, _⟩ := h; rfl) | (obtain ⟨_, _, _, _, _, rfl, _⟩ := h; rfl) | (obtain ⟨_, _, _, _, _, _, rfl, _⟩ := h; rfl) | (obtain ⟨_, _, _, _, _, _, _, rfl, _⟩ := h; rfl) | (obtain ⟨_, _, _, _, _, _, _, _, rfl, _⟩ := h; rfl) | (obtain ⟨_, _, _, _, _, _, _, _, _, rfl, _⟩ := h; rfl) | (obtain ⟨_, _, _, _, _, _, _, _, _, _, rfl, _⟩ := h; rfl) | (obtain ⟨_, _, _, _, _, _, _, _, _, _, _, rfl, _⟩ := h; rfl) | (obtain ⟨_, _, _, _, _, _, _, _, _, _, _, _, rfl, _⟩ := h; rfl) | (obtain ⟨_, _, _, _, _, _, _, _, _, _, _, _, _, rfl, _⟩ := h; rfl) | (obtain ⟨_, _, _, _, _, _, _, _, _, _, _, _, _, _, rfl, _⟩ := h; rfl) | (obtain ⟨_, _, _, _, _, _, _, _, _, _, _, _, _, _, _, rfl, _⟩ := h; rfl)) (fun cdv A outer s H vs Q E hr h => ⟨t_need_rowX K E, ?_, r_need_rowX h⟩), g, F.kp, F.bindsN fun _ _ _ _ _ _ us hl => match us, hl with | [_], _ => rfl⟩
  exact (pss_fg (pss_one (ps_if (pt_not (pt_val (pe_fn F_is_rowX (hr.mono (by decide)) (pa_cons (pv 0) pa_nil)))) (pss_one (ps_rai (hX "NoPrimes" (by decide)) g_NoPrimes rfl (takes_of rfl rfl rfl rfl))) pss_nil)))
theorem ok_is_made (F : FnP K "is_made" s_is_made f fd) (g : mg "is_made" = some (.ref f))  : Fn P w K mg base "is_made" 1 ["row", "number"] (sp_is_made K) := by
  refine ⟨f, fd, F.ok (k := 0) sc_is_made (fun vs H Q E h => by first | (obtain ⟨_, _, rfl, _⟩ := h; rfl) | (obtain ⟨_, _, _, rfl, _⟩ := h; rfl) | (obtain ⟨_, _, _, _, rfl, _⟩ := h; rfl) | (obtain ⟨_, _, _, _, _, rfl, _⟩ := h; rfl) | (obtain ⟨_, _, _, _, _, _, rfl, _⟩ := h; rfl) | (obtain ⟨_, _, _, _, _, _, _, rfl, _⟩ := h; rfl) | (obtain ⟨_, _, _, _, _, _, _, _, rfl, _⟩ := h; rfl) | (obtain ⟨_, _, _, _, _, _, _, _, _, rfl, _⟩ := h; rfl) | (obtain ⟨_, _, _, _, _, _, _, _, _, _, rfl, _⟩ := h; rfl) | (obtain ⟨_, _, _, _, _, _, _, _, _, _, _, rfl, _⟩ := h; rfl) | (obtain ⟨_, _, _, _, _, _, _, _, _, _, _, _, rfl, _⟩ := h; rfl) | (obtain ⟨_, _, _, _, _, _, _, _, _, _, _, _, _, rfl, _⟩ := h; rfl) | (obtain ⟨_, _, _, _, _, _, _, _, _, _, _, _, _, _, rfl, _⟩ := h; rfl) | (obtain ⟨_, _, _, _, _, _, _, _, _, _, _, _, _, _, _, rfl, _⟩ := h; rfl)) (fun cdv A outer s H vs Q E hr h => ⟨t_is_made K, PSs.nox ?_, r_is_made h⟩), g, F.kp, F.bindsN fun _ _ _ _ _ _ us hl => match us, hl with | [_, _], _ => rfl⟩
  exact (pss_fg (pss_cons (ps_for PassesOwn.never rfl (pi_list (pv 0)) (pg_name (i := 2) sc_is_made.nd rfl (Or.inl rfl)) (pss_one (ps_while PassesOwn.never (pt_cmpR op_eq (pe_op op_mod (pv 1) (pv 2)) pe_int (nomark _)) (pss_one (ps_aug (i := 1) sc_is_made.nd rfl (Or.inl rfl) (pv 2) ip_div)))))
      (pss_one (ps_ret (pe_cmpR op_eq (pv 1) pe_int (nomark _))))))
theorem ok_is_made_ofX (F : FnP K "is_made_of" s_is_made_ofX f fd) (g : mg "is_made_of" = some (.ref f)) (F_need_rowX : FnX P w K mg base "need_row" 3 ["row"] (sp_need_rowX K)) (F_is_wholeX : Fn P w K mg base "is_whole" 1 ["thing"] (sp_is_wholeX K)) (F_is_made : Fn P w K mg base "is_made" 1 ["row", "number"] (sp_is_made K)) : FnX P w K mg base "is_made_of" 4 ["row", "thing"] (sp_is_made_ofX K) := by
  refine ⟨f, fd, F.ok (CX := L2.CX P w) (k := 3) sc_is_made_ofX (fun vs H Q E h => by first | (obtain ⟨_, _, rfl, _⟩ := h; rfl) | (obtain ⟨_, _, _, rfl, _⟩ := h; rfl) | (obtain ⟨_, _, _, _, rfl, _⟩ := h; rfl) | (obtain ⟨_, _, _, _, _, rfl, _⟩ := h; rfl) | (obtain ⟨_, _, _, _, _, _, rfl, _⟩ := h; rfl) | (obtain ⟨_, _, _, _, _, _, _, rfl, _⟩ := h; rfl) | (obtain ⟨_, _, _, _, _, _, _, _, rfl, _⟩ := h; rfl) | (obtain ⟨_, _, _, _, _, _, _, _, _, rfl, _⟩ := h; rfl) | (obtain ⟨_, _, _, _, _, _, _, _, _, _, rfl, _⟩ := h; rfl) | (obtain ⟨_, _, _, _, _, _, _, _, _, _, _, rfl, _⟩ := h; rfl) | (obtain ⟨_, _, _, _, _, _, _, _, _, _, _, _, rfl, _⟩ := h; rfl) | (obtain ⟨_, _, _, _, _, _, _, _, _, _, _, _, _, rfl, _⟩ := h; rfl) | (obtain ⟨_, _, _, _, _, _, _, _, _, _, _, _, _, _, rfl, _⟩ := h; rfl) | (obtain ⟨_, _, _, _, _, _, _, _, _, _, _, _, _, _, _, rfl, _⟩ := h; rfl)) (fun cdv A outer s H vs Q E hr h => ⟨t_is_made_ofX K E, ?_, r_is_made_ofX h⟩), g, F.kp, F.bindsN fun _ _ _ _ _ _ us hl => match us, hl with | [_, _], _ => rfl⟩
  exact (pss_fg (pss_cons (ps_expr (pe_fnX F_need_rowX (hr.mono (by decide)) (takes_of rfl rfl rfl rfl) (pa_cons (pv 0) pa_nil)))
      (pss_one (ps_ret (pe_and (pe_fn F_is_wholeX (hr.mono (by decide)) (pa_cons (pv 1) pa_nil)) (pe_and (pe_cmpR op_gt (pv 1) pe_int (nomark _)) (pe_one (pe_fn F_is_made (hr.mono (by decide)) (pa_cons (pv 0) (pa_cons (pv 1) pa_nil))))))))))
theorem ok_made_toN (F : FnP K "made_to" s_made_toN f fd) (g : mg "made_to_neighbours" = some (.ref f)) (m_sorted : mg "sorted" = none) : Fn P w K mg base "made_to_neighbours" 1 ["row", "bound"] (sp_made_toN K) := by
  refine ⟨f, fd, F.ok (k := 0) sc_made_toN (fun vs H Q E h => by first | (obtain ⟨_, _, rfl, _⟩ := h; rfl) | (obtain ⟨_, _, _, rfl, _⟩ := h; rfl) | (obtain ⟨_, _, _, _, rfl, _⟩ := h; rfl) | (obtain ⟨_, _, _, _, _, rfl, _⟩ := h; rfl) | (obtain ⟨_, _, _, _, _, _, rfl, _⟩ := h; rfl) | (obtain ⟨_, _, _, _, _, _, _, rfl, _⟩ := h; rfl) | (obtain ⟨_, _, _, _, _, _, _, _, rfl, _⟩ := h; rfl) | (obtain ⟨_, _, _, _, _, _, _, _, _, rfl, _⟩ := h; rfl) | (obtain ⟨_, _, _, _, _, _, _, _, _, _, rfl, _⟩ := h; rfl) | (obtain ⟨_, _, _, _, _, _, _, _, _, _, _, rfl, _⟩ := h; rfl) | (obtain ⟨_, _, _, _, _, _, _, _, _, _, _, _, rfl, _⟩ := h; rfl) | (obtain ⟨_, _, _, _, _, _, _, _, _, _, _, _, _, rfl, _⟩ := h; rfl) | (obtain ⟨_, _, _, _, _, _, _, _, _, _, _, _, _, _, rfl, _⟩ := h; rfl) | (obtain ⟨_, _, _, _, _, _, _, _, _, _, _, _, _, _, _, rfl, _⟩ := h; rfl)) (fun cdv A outer s H vs Q E hr h => ⟨t_made_toN K, PSs.nox ?_, r_made_toN h⟩), g, F.kp, F.bindsN fun _ _ _ _ _ _ us hl => match us, hl with | [_, _], _ => rfl⟩
  exact (pss_fg (pss_cons (ps_set (i := 2) sc_made_toN.nd rfl (Or.inl rfl) (pe_lst (pa_cons pe_int pa_nil)))
      (pss_cons (ps_for PassesOwn.never rfl (pi_list (pv 0)) (pg_name (i := 3) sc_made_toN.nd rfl (Or.inr rfl)) (pss_cons (ps_set (i := 4) sc_made_toN.nd rfl (Or.inl rfl) (pv 2))
      (pss_one (ps_while PassesOwn.never (pt_fg (pt_cmpR (op_neD hr.units) (pv 4) (pe_lst pa_nil) (nomark _))) (pss_cons (ps_setLc (i := 4) (own := [("number", 5)]) (g := (gName 5)) (tt := (tTest (tOp oLe (tOp oMul (tVar 5) (tVar 3)) (tVar 1)))) rfl sc_made_toN.nd rfl rfl (sw_true rfl rfl rfl (by decide +kernel)) (pi_list (pv 4)) (blkOk_by (N := N_made_toN) (sc := defScope s_made_toN) (by decide +kernel)) (fun _ _ _ _ _ => (pg_name (i := 5) sc_made_toN.nd rfl (Or.inl rfl))) (fun _ _ _ _ _ => (pts_one (pt_cmpR op_le (pe_op op_mulW (pv 5) (pv 3)) (pv 1) (nomark _)))) (fun _ _ _ _ _ => (pe_op op_mulW (pv 5) (pv 3))))
      (pss_one (ps_set (i := 2) sc_made_toN.nd rfl (Or.inl rfl) (pe_op op_cat (pv 2) (pv 4)))))))))
      (pss_one (ps_ret (pe_fg (pe_callB cr_sortedI (by rfl) m_sorted (by decide +kernel) (pa_cons (pe_lc (own := [("number", 5)]) (g := (gName 5)) (tt := (tTest (tOp oLe (tVar 5) (tVar 1)))) rfl sc_made_toN.nd (pi_list (pv 2)) (blkOk_by (N := N_made_toN) (sc := defScope s_made_toN) (by decide +kernel)) (fun _ _ _ _ _ => (pg_name (i := 5) sc_made_toN.nd rfl (Or.inl rfl))) (fun _ _ _ _ _ => (pts_one (pt_cmpR op_le (pv 5) (pv 1) (nomark _)))) (fun _ _ _ _ _ => (pv 5))) pa_nil))))))))
theorem ok_neighboursX (F : FnP K "neighbours" s_neighboursX f fd) (g : mg "neighbours" = some (.ref f)) (F_is_made_ofX : FnX P w K mg base "is_made_of" 4 ["row", "thing"] (sp_is_made_ofX K)) (F_made_toN : Fn P w K mg base "made_to_neighbours" 1 ["row", "bound"] (sp_made_toN K)) (m_zip : mg "zip" = none) : FnX P w K mg base "neighbours" 5 ["row", "bound"] (sp_neighboursX K) := by
  refine ⟨f, fd, F.ok (CX := L2.CX P w) (k := 4) sc_neighboursX (fun vs H Q E h => by first | (obtain ⟨_, _, rfl, _⟩ := h; rfl) | (obtain ⟨_, _, _, rfl, _⟩ := h; rfl) | (obtain ⟨_, _, _, _, rfl, _⟩ := h; rfl) | (obtain ⟨_, _, _, _, _, rfl, _⟩ := h; rfl) | (obtain ⟨_, _, _, _, _, _, rfl, _⟩ := h; rfl) | (obtain ⟨_, _, _, _, _, _, _, rfl, _⟩ := h; rfl) | (obtain ⟨_, _, _, _, _, _, _, _, rfl, _⟩ := h; rfl) | (obtain ⟨_, _, _, _, _, _, _, _, _, rfl, _⟩ := h; rfl) | (obtain ⟨_, _, _, _, _, _, _, _, _, _, rfl, _⟩ := h; rfl) | (obtain ⟨_, _, _, _, _, _, _, _, _, _, _, rfl, _⟩ := h; rfl) | (obtain ⟨_, _, _, _, _, _, _, _, _, _, _, _, rfl, _⟩ := h; rfl) | (obtain ⟨_, _, _, _, _, _, _, _, _, _, _, _, _, rfl, _⟩ := h; rfl) | (obtain ⟨_, _, _, _, _, _, _, _, _, _, _, _, _, _, rfl, _⟩ := h; rfl) | (obtain ⟨_, _, _, _, _, _, _, _, _, _, _, _, _, _, _, rfl, _⟩ := h; rfl)) (fun cdv A outer s H vs Q E hr h => ⟨t_neighboursX K E, ?_, r_neighboursX h⟩), g, F.kp, F.bindsN fun _ _ _ _ _ _ us hl => match us, hl with | [_, _], _ => rfl⟩
  exact (pss_fg (pss_cons (ps_expr (pe_fnX F_is_made_ofX (hr.mono (by decide)) (takes_of rfl rfl rfl rfl) (pa_cons (pv 0) (pa_cons pe_int pa_nil))))
      (pss_cons (ps_set (i := 2) sc_neighboursX.nd rfl (Or.inl rfl) (pe_fn F_made_toN (hr.mono (by decide)) (pa_cons (pv 0) (pa_cons (pe_op op_add (pv 1) pe_int) pa_nil))))
      (pss_cons (ps_fg (ps_setLc (i := 3) (own := [("one", 4), ("other", 5)]) (g := (gTup K 2 (gCons (gName 4) (gCons (gName 5) gNil)))) (tt := (tTest (tOp rEq (tVar 5) (tOp oAdd (tVar 4) (tC (.int 1)))))) rfl sc_neighboursX.nd rfl rfl (sw_true rfl rfl rfl (by decide +kernel)) (pi_zip (by rfl) m_zip (pa_cons (pv 2) (pa_cons (pe_slice sl_list (pv 2) (po_some pe_int) po_none) pa_nil))) (blkOk_by (N := N_neighboursX) (sc := defScope s_neighboursX) (by decide +kernel)) (fun _ _ _ _ _ => (pg_tup rfl (pgs_cons (pg_name (i := 4) sc_neighboursX.nd rfl (Or.inl rfl)) (pgs_cons (pg_name (i := 5) sc_neighboursX.nd rfl (Or.inl rfl)) pgs_nil)))) (fun _ _ _ _ _ => (pts_one (pt_cmpR op_eq (pv 5) (pe_op op_add (pv 4) pe_int) (nomark _)))) (fun _ _ _ _ _ => (pv 4))))
      (pss_one (ps_ret (pe_lc (own := [("number", 6)]) (g := (gName 6)) (tt := (tTest (tOp oLe (tVar 6) (tVar 1)))) rfl sc_neighboursX.nd (pi_list (pv 3)) (blkOk_by (N := N_neighboursX) (sc := defScope s_neighboursX) (by decide +kernel)) (fun _ _ _ _ _ => (pg_name (i := 6) sc_neighboursX.nd rfl (Or.inl rfl))) (fun _ _ _ _ _ => (pts_one (pt_cmpR op_le (pv 6) (pv 1) (nomark _)))) (fun _ _ _ _ _ => (pv 6)))))))))
theorem ok_greatest_to (F : FnP K "greatest_to" s_greatest_to f fd) (g : mg "greatest_to" = some (.ref f)) (m_range : mg "range" = none) : Fn P w K mg base "greatest_to" 1 ["bound"] (sp_greatest_to K) := by
  refine ⟨f, fd, F.ok (k := 0) sc_greatest_to (fun vs H Q E h => by first | (obtain ⟨_, _, rfl, _⟩ := h; rfl) | (obtain ⟨_, _, _, rfl, _⟩ := h; rfl) | (obtain ⟨_, _, _, _, rfl, _⟩ := h; rfl) | (obtain ⟨_, _, _, _, _, rfl, _⟩ := h; rfl) | (obtain ⟨_, _, _, _, _, _, rfl, _⟩ := h; rfl) | (obtain ⟨_, _, _, _, _, _, _, rfl, _⟩ := h; rfl) | (obtain ⟨_, _, _, _, _, _, _, _, rfl, _⟩ := h; rfl) | (obtain ⟨_, _, _, _, _, _, _, _, _, rfl, _⟩ := h; rfl) | (obtain ⟨_, _, _, _, _, _, _, _, _, _, rfl, _⟩ := h; rfl) | (obtain ⟨_, _, _, _, _, _, _, _, _, _, _, rfl, _⟩ := h; rfl) | (obtain ⟨_, _, _, _, _, _, _, _, _, _, _, _, rfl, _⟩ := h; rfl) | (obtain ⟨_, _, _, _, _, _, _, _, _, _, _, _, _, rfl, _⟩ := h; rfl) | (obtain ⟨_, _, _, _, _, _, _, _, _, _, _, _, _, _, rfl, _⟩ := h; rfl) | (obtain ⟨_, _, _, _, _, _, _, _, _, _, _, _, _, _, _, rfl, _⟩ := h; rfl)) (fun cdv A outer s H vs Q E hr h => ⟨t_greatest_to K, PSs.nox ?_, r_greatest_to h⟩), g, F.kp, F.bindsN fun _ _ _ _ _ _ us hl => match us, hl with | [_], _ => rfl⟩
  exact (pss_fg (pss_cons (ps_set (i := 1) sc_greatest_to.nd rfl (Or.inl rfl) (pe_op op_rep (pe_lst (pa_cons pe_int pa_nil)) (pe_op op_add (pv 0) pe_int)))
      (pss_cons (ps_for PassesOwn.never rfl (pi_range2 (by rfl) m_range (pa_cons pe_int (pa_cons (pe_op op_add (pv 0) pe_int) pa_nil))) (pg_name (i := 2) sc_greatest_to.nd rfl (Or.inl rfl)) (pss_one (ps_if (pt_cmpR op_eq (pe_ix ix_list (pv 1) (pv 2) (fun _ _ => rfl)) pe_int (nomark _)) (pss_one (ps_for PassesOwn.never rfl (pi_range3 (by rfl) m_range (pa_cons (pv 2) (pa_cons (pe_op op_add (pv 0) pe_int) (pa_cons (pv 2) pa_nil)))) (pg_name (i := 3) sc_greatest_to.nd rfl (Or.inl rfl)) (pss_one (ps_asg (pv 2) (pg_sub (pv 1) (pv 3) set_list))))) pss_nil)))
      (pss_one (ps_ret (pv 1))))))
theorem ok_by_greatest (F : FnP K "by_greatest" s_by_greatest f fd) (g : mg "by_greatest" = some (.ref f)) (F_greatest_to : Fn P w K mg base "greatest_to" 1 ["bound"] (sp_greatest_to K)) (m_sorted : mg "sorted" = none) : Fn P w K mg base "by_greatest" 2 ["bound"] (sp_by_greatest K) := by
  refine ⟨f, fd, F.ok (k := 1) sc_by_greatest (fun vs H Q E h => by first | (obtain ⟨_, _, rfl, _⟩ := h; rfl) | (obtain ⟨_, _, _, rfl, _⟩ := h; rfl) | (obtain ⟨_, _, _, _, rfl, _⟩ := h; rfl) | (obtain ⟨_, _, _, _, _, rfl, _⟩ := h; rfl) | (obtain ⟨_, _, _, _, _, _, rfl, _⟩ := h; rfl) | (obtain ⟨_, _, _, _, _, _, _, rfl, _⟩ := h; rfl) | (obtain ⟨_, _, _, _, _, _, _, _, rfl, _⟩ := h; rfl) | (obtain ⟨_, _, _, _, _, _, _, _, _, rfl, _⟩ := h; rfl) | (obtain ⟨_, _, _, _, _, _, _, _, _, _, rfl, _⟩ := h; rfl) | (obtain ⟨_, _, _, _, _, _, _, _, _, _, _, rfl, _⟩ := h; rfl) | (obtain ⟨_, _, _, _, _, _, _, _, _, _, _, _, rfl, _⟩ := h; rfl) | (obtain ⟨_, _, _, _, _, _, _, _, _, _, _, _, _, rfl, _⟩ := h; rfl) | (obtain ⟨_, _, _, _, _, _, _, _, _, _, _, _, _, _, rfl, _⟩ := h; rfl) | (obtain ⟨_, _, _, _, _, _, _, _, _, _, _, _, _, _, _, rfl, _⟩ := h; rfl)) (fun cdv A outer s H vs Q E hr h => ⟨t_by_greatest K, PSs.nox ?_, r_by_greatest h⟩), g, F.kp, F.bindsN fun _ _ _ _ _ _ us hl => match us, hl with | [_], _ => rfl⟩
  exact (pss_fg (pss_cons (ps_set (i := 1) sc_by_greatest.nd rfl (Or.inl rfl) pe_dnewK)
      (pss_cons (ps_for PassesOwn.never rfl (pi_list (pe_slice sl_list (pe_fn F_greatest_to (hr.mono (by decide)) (pa_cons (pv 0) pa_nil)) (po_some pe_int) po_none)) (pg_name (i := 2) sc_by_greatest.nd rfl (Or.inl rfl)) (pss_one (ps_dput (hu_of hr) (pv 1) (pv 2) (pe_op op_add (pe_dget2 (hu_of hr) (pv 1) (pv 2) pe_int ⟨by rfl, by rfl, by rfl, by rfl⟩) pe_int) rfl)))
      (pss_one (ps_ret (pe_callB (cr_sortItK rfl) (by rfl) m_sorted (by decide +kernel) (pa_cons (pe_bm0 PySem.F.plainAttrs_dict PySem.F.slot_dict_items PySem.F.type_dict_items mt_itemsK (pv 1)) pa_nil)))))))
theorem ok_made_to (F : FnP K "made_to" s_made_to f fd) (g : mg "made_to_order" = some (.ref f)) (m_int : mg "int" = none) (m_len : mg "len" = none) : Fn P w K mg base "made_to_order" 1 ["row", "bound"] (sp_made_to K) := by
  refine ⟨f, fd, F.ok (k := 0) sc_made_to (fun vs H Q E h => by first | (obtain ⟨_, _, rfl, _⟩ := h; rfl) | (obtain ⟨_, _, _, rfl, _⟩ := h; rfl) | (obtain ⟨_, _, _, _, rfl, _⟩ := h; rfl) | (obtain ⟨_, _, _, _, _, rfl, _⟩ := h; rfl) | (obtain ⟨_, _, _, _, _, _, rfl, _⟩ := h; rfl) | (obtain ⟨_, _, _, _, _, _, _, rfl, _⟩ := h; rfl) | (obtain ⟨_, _, _, _, _, _, _, _, rfl, _⟩ := h; rfl) | (obtain ⟨_, _, _, _, _, _, _, _, _, rfl, _⟩ := h; rfl) | (obtain ⟨_, _, _, _, _, _, _, _, _, _, rfl, _⟩ := h; rfl) | (obtain ⟨_, _, _, _, _, _, _, _, _, _, _, rfl, _⟩ := h; rfl) | (obtain ⟨_, _, _, _, _, _, _, _, _, _, _, _, rfl, _⟩ := h; rfl) | (obtain ⟨_, _, _, _, _, _, _, _, _, _, _, _, _, rfl, _⟩ := h; rfl) | (obtain ⟨_, _, _, _, _, _, _, _, _, _, _, _, _, _, rfl, _⟩ := h; rfl) | (obtain ⟨_, _, _, _, _, _, _, _, _, _, _, _, _, _, _, rfl, _⟩ := h; rfl)) (fun cdv A outer s H vs Q E hr h => ⟨t_made_to K, PSs.nox ?_, r_made_to h⟩), g, F.kp, F.bindsN fun _ _ _ _ _ _ us hl => match us, hl with | [_, _], _ => rfl⟩
  exact (pss_fg (pss_cons (ps_set (i := 2) sc_made_to.nd rfl (Or.inl rfl) (pe_fg (pe_op op_rep (pe_lst (pa_cons pe_int pa_nil)) (pe_callTy call_int1 (by rfl) m_int (by decide +kernel) (pa_cons (pe_cmpR op_gt (pv 1) pe_int (nomark _)) pa_nil)))))
      (pss_cons (ps_for PassesOwn.never rfl (pi_list (pv 0)) (pg_name (i := 3) sc_made_to.nd rfl (Or.inl rfl)) (pss_cons (ps_set (i := 4) sc_made_to.nd rfl (Or.inl rfl) pe_int)
      (pss_one (ps_while PassesOwn.never (pt_cmpR op_lt (pv 4) (pe_callB call_len_seq (by rfl) m_len (by decide +kernel) (pa_cons (pv 2) pa_nil)) (nomark _)) (pss_cons (ps_if (pt_cmpR op_le (pe_op op_mulW (pe_ix ix_list (pv 2) (pv 4) (fun _ _ => rfl)) (pv 3)) (pv 1) (nomark _)) (pss_one (ps_expr (pe_bm PySem.F.plainAttrs_list PySem.F.slot_list_append PySem.F.type_list_append mt_append (pv 2) (pa_cons (pe_op op_mulW (pe_ix ix_list (pv 2) (pv 4) (fun _ _ => rfl)) (pv 3)) pa_nil)))) pss_nil)
      (pss_one (ps_aug (i := 4) sc_made_to.nd rfl (Or.inl rfl) pe_int ip_add)))))))
      (pss_one (ps_ret (pv 2))))))
theorem ok_grown (F : FnP K "grown" s_grown f fd) (g : mg "grown" = some (.ref f))  : Fn P w K mg base "grown" 1 ["number", "prime", "bound"] (sp_grown K) := by
  refine ⟨f, fd, F.ok (k := 0) sc_grown (fun vs H Q E h => by first | (obtain ⟨_, _, rfl, _⟩ := h; rfl) | (obtain ⟨_, _, _, rfl, _⟩ := h; rfl) | (obtain ⟨_, _, _, _, rfl, _⟩ := h; rfl) | (obtain ⟨_, _, _, _, _, rfl, _⟩ := h; rfl) | (obtain ⟨_, _, _, _, _, _, rfl, _⟩ := h; rfl) | (obtain ⟨_, _, _, _, _, _, _, rfl, _⟩ := h; rfl) | (obtain ⟨_, _, _, _, _, _, _, _, rfl, _⟩ := h; rfl) | (obtain ⟨_, _, _, _, _, _, _, _, _, rfl, _⟩ := h; rfl) | (obtain ⟨_, _, _, _, _, _, _, _, _, _, rfl, _⟩ := h; rfl) | (obtain ⟨_, _, _, _, _, _, _, _, _, _, _, rfl, _⟩ := h; rfl) | (obtain ⟨_, _, _, _, _, _, _, _, _, _, _, _, rfl, _⟩ := h; rfl) | (obtain ⟨_, _, _, _, _, _, _, _, _, _, _, _, _, rfl, _⟩ := h; rfl) | (obtain ⟨_, _, _, _, _, _, _, _, _, _, _, _, _, _, rfl, _⟩ := h; rfl) | (obtain ⟨_, _, _, _, _, _, _, _, _, _, _, _, _, _, _, rfl, _⟩ := h; rfl)) (fun cdv A outer s H vs Q E hr h => ⟨t_grown K, PSs.nox ?_, r_grown h⟩), g, F.kp, F.bindsN fun _ _ _ _ _ _ us hl => match us, hl with | [_, _, _], _ => rfl⟩
  exact (pss_fg (pss_cons (ps_while PassesOwn.never (pt_cmpR op_le (pe_op op_mulW (pv 0) (pv 1)) (pv 2) (nomark _)) (pss_one (ps_aug (i := 0) sc_grown.nd rfl (Or.inl rfl) (pv 1) ip_mul)))
      (pss_one (ps_ret (pv 0)))))
theorem ok_next_oneX (F : FnP K "next_one" s_next_oneX f fd) (g : mg "next_one" = some (.ref f)) (F_need_rowX : FnX P w K mg base "need_row" 3 ["row"] (sp_need_rowX K)) (F_grown : Fn P w K mg base "grown" 1 ["number", "prime", "bound"] (sp_grown K)) (F_made_to : Fn P w K mg base "made_to_order" 1 ["row", "bound"] (sp_made_to K)) (m_min : mg "min" = none) : FnX P w K mg base "next_one" 4 ["row", "number"] (sp_next_oneX K) := by
  refine ⟨f, fd, F.ok (CX := L2.CX P w) (k := 3) sc_next_oneX (fun vs H Q E h => by first | (obtain ⟨_, _, rfl, _⟩ := h; rfl) | (obtain ⟨_, _, _, rfl, _⟩ := h; rfl) | (obtain ⟨_, _, _, _, rfl, _⟩ := h; rfl) | (obtain ⟨_, _, _, _, _, rfl, _⟩ := h; rfl) | (obtain ⟨_, _, _, _, _, _, rfl, _⟩ := h; rfl) | (obtain ⟨_, _, _, _, _, _, _, rfl, _⟩ := h; rfl) | (obtain ⟨_, _, _, _, _, _, _, _, rfl, _⟩ := h; rfl) | (obtain ⟨_, _, _, _, _, _, _, _, _, rfl, _⟩ := h; rfl) | (obtain ⟨_, _, _, _, _, _, _, _, _, _, rfl, _⟩ := h; rfl) | (obtain ⟨_, _, _, _, _, _, _, _, _, _, _, rfl, _⟩ := h; rfl) | (obtain ⟨_, _, _, _, _, _, _, _, _, _, _, _, rfl, _⟩ := h; rfl) | (obtain ⟨_, _, _, _, _, _, _, _, _, _, _, _, _, rfl, _⟩ := h; rfl) | (obtain ⟨_, _, _, _, _, _, _, _, _, _, _, _, _, _, rfl, _⟩ := h; rfl) | (obtain ⟨_, _, _, _, _, _, _, _, _, _, _, _, _, _, _, rfl, _⟩ := h; rfl)) (fun cdv A outer s H vs Q E hr h => ⟨t_next_oneX K E, ?_, r_next_oneX h⟩), g, F.kp, F.bindsN fun _ _ _ _ _ _ us hl => match us, hl with | [_, _], _ => rfl⟩
  exact (pss_fg (pss_cons (ps_expr (pe_fnX F_need_rowX (hr.mono (by decide)) (takes_of rfl rfl rfl rfl) (pa_cons (pv 0) pa_nil)))
      (pss_cons (ps_if (pt_cmpR op_eq (pv 1) pe_int (nomark _)) (pss_one (ps_ret pe_int)) pss_nil)
      (pss_cons (ps_set (i := 2) sc_next_oneX.nd rfl (Or.inl rfl) (pe_op op_mulW (pe_fn F_grown (hr.mono (by decide)) (pa_cons pe_int (pa_cons (pe_ix ix_list (pv 0) pe_int (fun _ _ => rfl)) (pa_cons (pv 1) pa_nil)))) (pe_ix ix_list (pv 0) pe_int (fun _ _ => rfl))))
      (pss_cons (ps_for (passes_of rfl) rfl (pi_list (pe_fg (pe_fn F_made_to (hr.mono (by decide)) (pa_cons (pe_slice sl_list (pv 0) (po_some pe_int) po_none) (pa_cons (pv 2) pa_nil))))) (pg_name (i := 3) sc_next_oneX.nd rfl (Or.inl rfl)) (pss_cons (ps_if (pt_cmpR op_le (pv 3) (pv 1) (nomark _)) (pss_one (ps_set (i := 3) sc_next_oneX.nd rfl (Or.inl rfl) (pe_op op_mulW (pe_fn F_grown (hr.mono (by decide)) (pa_cons (pv 3) (pa_cons (pe_ix ix_list (pv 0) pe_int (fun _ _ => rfl)) (pa_cons (pv 1) pa_nil)))) (pe_ix ix_list (pv 0) pe_int (fun _ _ => rfl))))) pss_nil)
      (pss_one (ps_set (i := 2) sc_next_oneX.nd rfl (Or.inl rfl) (pe_callB (call_min2 rfl) (by rfl) m_min (by decide +kernel) (pa_cons (pv 2) (pa_cons (pv 3) pa_nil)))))))
      (pss_one (ps_ret (pv 2))))))))
theorem ok_last_oneX (F : FnP K "last_one" s_last_oneX f fd) (g : mg "last_one" = some (.ref f)) (F_need_rowX : FnX P w K mg base "need_row" 3 ["row"] (sp_need_rowX K)) (F_made_to : Fn P w K mg base "made_to_order" 1 ["row", "bound"] (sp_made_to K)) (F_grown : Fn P w K mg base "grown" 1 ["number", "prime", "bound"] (sp_grown K)) (m_max : mg "max" = none) : Fn P w K mg base "last_one" 4 ["row", "number"] (sp_last_oneX K) := by
  refine ⟨f, fd, F.ok (k := 3) sc_last_oneX (fun vs H Q E h => by first | (obtain ⟨_, _, rfl, _⟩ := h; rfl) | (obtain ⟨_, _, _, rfl, _⟩ := h; rfl) | (obtain ⟨_, _, _, _, rfl, _⟩ := h; rfl) | (obtain ⟨_, _, _, _, _, rfl, _⟩ := h; rfl) | (obtain ⟨_, _, _, _, _, _, rfl, _⟩ := h; rfl) | (obtain ⟨_, _, _, _, _, _, _, rfl, _⟩ := h; rfl) | (obtain ⟨_, _, _, _, _, _, _, _, rfl, _⟩ := h; rfl) | (obtain ⟨_, _, _, _, _, _, _, _, _, rfl, _⟩ := h; rfl) | (obtain ⟨_, _, _, _, _, _, _, _, _, _, rfl, _⟩ := h; rfl) | (obtain ⟨_, _, _, _, _, _, _, _, _, _, _, rfl, _⟩ := h; rfl) | (obtain ⟨_, _, _, _, _, _, _, _, _, _, _, _, rfl, _⟩ := h; rfl) | (obtain ⟨_, _, _, _, _, _, _, _, _, _, _, _, _, rfl, _⟩ := h; rfl) | (obtain ⟨_, _, _, _, _, _, _, _, _, _, _, _, _, _, rfl, _⟩ := h; rfl) | (obtain ⟨_, _, _, _, _, _, _, _, _, _, _, _, _, _, _, rfl, _⟩ := h; rfl)) (fun cdv A outer s H vs Q E hr h => ⟨t_last_oneX K, PSs.nox ?_, r_last_oneX h⟩), g, F.kp, F.bindsN fun _ _ _ _ _ _ us hl => match us, hl with | [_, _], _ => rfl⟩
  exact (pss_fg (pss_cons (ps_expr (pe_fnX0 F_need_rowX (hr.mono (by decide)) (pa_cons (pv 0) pa_nil)))
      (pss_cons (ps_if (pt_cmpR op_lt (pv 1) pe_int (nomark _)) (pss_one (ps_ret pe_non)) pss_nil)
      (pss_one (ps_ret (pe_fg (pe_callB (cr_max rfl) (by rfl) m_max (by decide +kernel) (pa_cons (pe_fg (pe_lc (own := [("rest", 2)]) (g := (gName 2)) (tt := tYes) rfl sc_last_oneX.nd (pi_list (pe_fg (pe_fn F_made_to (hr.mono (by decide)) (pa_cons (pe_slice sl_list (pv 0) (po_some pe_int) po_none) (pa_cons (pe_op op_sub (pv 1) pe_int) pa_nil))))) (blkOk_by (N := N_last_oneX) (sc := defScope s_last_oneX) (by decide +kernel)) (fun _ _ _ _ _ => (pg_name (i := 2) sc_last_oneX.nd rfl (Or.inl rfl))) (fun _ _ _ _ _ => pts_nil) (fun _ _ _ _ _ => (pe_fn F_grown (hr.mono (by decide)) (pa_cons (pv 2) (pa_cons (pe_ix ix_list (pv 0) pe_int (fun _ _ => rfl)) (pa_cons (pe_op op_sub (pv 1) pe_int) pa_nil))))))) pa_nil))))))))
theorem ok_nearestX (F : FnP K "nearest" s_nearestX f fd) (g : mg "nearest" = some (.ref f)) (F_next_oneX : FnX P w K mg base "next_one" 4 ["row", "number"] (sp_next_oneX K)) (F_last_oneX : Fn P w K mg base "last_one" 4 ["row", "number"] (sp_last_oneX K)) : FnX P w K mg base "nearest" 5 ["row", "number"] (sp_nearestX K) := by
  refine ⟨f, fd, F.ok (CX := L2.CX P w) (k := 4) sc_nearestX (fun vs H Q E h => by first | (obtain ⟨_, _, rfl, _⟩ := h; rfl) | (obtain ⟨_, _, _, rfl, _⟩ := h; rfl) | (obtain ⟨_, _, _, _, rfl, _⟩ := h; rfl) | (obtain ⟨_, _, _, _, _, rfl, _⟩ := h; rfl) | (obtain ⟨_, _, _, _, _, _, rfl, _⟩ := h; rfl) | (obtain ⟨_, _, _, _, _, _, _, rfl, _⟩ := h; rfl) | (obtain ⟨_, _, _, _, _, _, _, _, rfl, _⟩ := h; rfl) | (obtain ⟨_, _, _, _, _, _, _, _, _, rfl, _⟩ := h; rfl) | (obtain ⟨_, _, _, _, _, _, _, _, _, _, rfl, _⟩ := h; rfl) | (obtain ⟨_, _, _, _, _, _, _, _, _, _, _, rfl, _⟩ := h; rfl) | (obtain ⟨_, _, _, _, _, _, _, _, _, _, _, _, rfl, _⟩ := h; rfl) | (obtain ⟨_, _, _, _, _, _, _, _, _, _, _, _, _, rfl, _⟩ := h; rfl) | (obtain ⟨_, _, _, _, _, _, _, _, _, _, _, _, _, _, rfl, _⟩ := h; rfl) | (obtain ⟨_, _, _, _, _, _, _, _, _, _, _, _, _, _, _, rfl, _⟩ := h; rfl)) (fun cdv A outer s H vs Q E hr h => ⟨t_nearestX K E, ?_, r_nearestX h⟩), g, F.kp, F.bindsN fun _ _ _ _ _ _ us hl => match us, hl with | [_, _], _ => rfl⟩
  exact (pss_fg (pss_cons (ps_set (i := 2) sc_nearestX.nd rfl (Or.inl rfl) (pe_fnX F_next_oneX (hr.mono (by decide)) (takes_of rfl rfl rfl rfl) (pa_cons (pv 0) (pa_cons (pe_op op_sub (pv 1) pe_int) pa_nil))))
      (pss_cons (ps_set (i := 3) sc_nearestX.nd rfl (Or.inl rfl) (pe_fn F_last_oneX (hr.mono (by decide)) (pa_cons (pv 0) (pa_cons (pe_op op_add (pv 1) pe_int) pa_nil))))
      (pss_cons (ps_if (pt_cmpR op_le (pe_op op_sub (pv 1) (pv 3)) (pe_op op_sub (pv 2) (pv 1)) (nomark _)) (pss_one (ps_ret (pv 3))) pss_nil)
      (pss_one (ps_ret (pv 2)))))))
theorem ok_product_of (F : FnP K "product_of" s_product_of f fd) (g : mg "product_of" = some (.ref f)) (m_range : mg "range" = none) : Fn P w K mg base "product_of" 1 ["prime", "many"] (sp_product_of K) := by
  refine ⟨f, fd, F.ok (k := 0) sc_product_of (fun vs H Q E h => by first | (obtain ⟨_, _, rfl, _⟩ := h; rfl) | (obtain ⟨_, _, _, rfl, _⟩ := h; rfl) | (obtain ⟨_, _, _, _, rfl, _⟩ := h; rfl) | (obtain ⟨_, _, _, _, _, rfl, _⟩ := h; rfl) | (obtain ⟨_, _, _, _, _, _, rfl, _⟩ := h; rfl) | (obtain ⟨_, _, _, _, _, _, _, rfl, _⟩ := h; rfl) | (obtain ⟨_, _, _, _, _, _, _, _, rfl, _⟩ := h; rfl) | (obtain ⟨_, _, _, _, _, _, _, _, _, rfl, _⟩ := h; rfl) | (obtain ⟨_, _, _, _, _, _, _, _, _, _, rfl, _⟩ := h; rfl) | (obtain ⟨_, _, _, _, _, _, _, _, _, _, _, rfl, _⟩ := h; rfl) | (obtain ⟨_, _, _, _, _, _, _, _, _, _, _, _, rfl, _⟩ := h; rfl) | (obtain ⟨_, _, _, _, _, _, _, _, _, _, _, _, _, rfl, _⟩ := h; rfl) | (obtain ⟨_, _, _, _, _, _, _, _, _, _, _, _, _, _, rfl, _⟩ := h; rfl) | (obtain ⟨_, _, _, _, _, _, _, _, _, _, _, _, _, _, _, rfl, _⟩ := h; rfl)) (fun cdv A outer s H vs Q E hr h => ⟨t_product_of K, PSs.nox ?_, r_product_of h⟩), g, F.kp, F.bindsN fun _ _ _ _ _ _ us hl => match us, hl with | [_, _], _ => rfl⟩
  exact (pss_fg (pss_cons (ps_set (i := 2) sc_product_of.nd rfl (Or.inl rfl) pe_int)
      (pss_cons (ps_for PassesOwn.never rfl (pi_range1 (by rfl) m_range (pa_cons (pv 1) pa_nil)) (pg_name (i := 3) sc_product_of.nd rfl (Or.inl rfl)) (pss_one (ps_aug (i := 2) sc_product_of.nd rfl (Or.inl rfl) (pv 0) ip_mul)))
      (pss_one (ps_ret (pv 2))))))
theorem okD_least_from (F : FnP K "least_from" s_least_from f fd) (g : mg "least_from" = some (.ref f)) (F_product_of : Fn P w K mg base "product_of" 1 ["prime", "many"] (sp_product_of K)) (m_min : mg "min" = none) (m_range : mg "range" = none) : ∀ d : Nat, Fn P w K mg base "least_from" (1 + d) ["row", "many", "number"] (sp_least_fromD d K)
  | 0 => ⟨f, fd, ⟨fun vs H Q E h => by exact (z_least_from h).elim, fun A outer s H args us vs Q E hr e0 hb hv h => (z_least_from h).elim⟩, g, F.kp, F.bindsN fun _ _ _ _ _ _ us hl => match us, hl with | [_, _, _], _ => rfl⟩
  | d + 1 => by
    have F_least_from := okD_least_from F g F_product_of m_min m_range d
    refine ⟨f, fd, F.ok (k := 1 + d) sc_least_from (fun vs H Q E h => by first | (obtain ⟨_, _, rfl, _⟩ := h; rfl) | (obtain ⟨_, _, _, rfl, _⟩ := h; rfl) | (obtain ⟨_, _, _, _, rfl, _⟩ := h; rfl) | (obtain ⟨_, _, _, _, _, rfl, _⟩ := h; rfl) | (obtain ⟨_, _, _, _, _, _, rfl, _⟩ := h; rfl) | (obtain ⟨_, _, _, _, _, _, _, rfl, _⟩ := h; rfl) | (obtain ⟨_, _, _, _, _, _, _, _, rfl, _⟩ := h; rfl) | (obtain ⟨_, _, _, _, _, _, _, _, _, rfl, _⟩ := h; rfl) | (obtain ⟨_, _, _, _, _, _, _, _, _, _, rfl, _⟩ := h; rfl) | (obtain ⟨_, _, _, _, _, _, _, _, _, _, _, rfl, _⟩ := h; rfl) | (obtain ⟨_, _, _, _, _, _, _, _, _, _, _, _, rfl, _⟩ := h; rfl) | (obtain ⟨_, _, _, _, _, _, _, _, _, _, _, _, _, rfl, _⟩ := h; rfl) | (obtain ⟨_, _, _, _, _, _, _, _, _, _, _, _, _, _, rfl, _⟩ := h; rfl) | (obtain ⟨_, _, _, _, _, _, _, _, _, _, _, _, _, _, _, rfl, _⟩ := h; rfl)) (fun cdv A outer s H vs Q E hr h => ⟨t_least_from K d, PSs.nox ?_, r_least_from h⟩), g, F.kp, F.bindsN fun _ _ _ _ _ _ us hl => match us, hl with | [_, _, _], _ => rfl⟩
    exact (pss_fg (pss_cons (ps_set (i := 3) sc_least_from.nd rfl (Or.inl rfl) (pe_fn F_product_of (hr.mono (Nat.le_trans (by decide) (Nat.le_add_right 1 d))) (pa_cons (pe_ix ix_list (pv 0) pe_int (fun _ _ => rfl)) (pa_cons (pv 1) pa_nil))))
      (pss_cons (ps_if (pt_cmpR op_ge (pv 3) (pv 2) (nomark _)) (pss_one (ps_ret (pv 3))) pss_nil)
      (pss_cons (ps_if (pt_cmpR op_lt (pe_fn F_product_of (hr.mono (Nat.le_trans (by decide) (Nat.le_add_right 1 d))) (pa_cons (pe_ix ix_list (pv 0) (pe_un un_neg pe_int) (fun _ _ => rfl)) (pa_cons (pv 1) pa_nil))) (pv 2) (nomark _)) (pss_one (ps_ret pe_non)) pss_nil)
      (pss_cons (ps_set (i := 4) sc_least_from.nd rfl (Or.inl rfl) (pe_lst pa_nil))
      (pss_cons (ps_set (i := 5) sc_least_from.nd rfl (Or.inl rfl) pe_int)
      (pss_cons (ps_for PassesOwn.never rfl (pi_range1 (by rfl) m_range (pa_cons (pe_op op_add (pv 1) pe_int) pa_nil)) (pg_name (i := 6) sc_least_from.nd rfl (Or.inl rfl)) (pss_cons (ps_set (i := 7) sc_least_from.nd rfl (Or.inl rfl) (pe_fg (pe_fn F_least_from hr (pa_cons (pe_slice sl_list (pv 0) po_none (po_some (pe_un un_neg pe_int))) (pa_cons (pe_op op_sub (pv 1) (pv 6)) (pa_cons (pe_op op_fdivW (pe_op op_sub (pe_op op_add (pv 2) (pv 5)) pe_int) (pv 5)) pa_nil))))))
      (pss_cons (ps_if (pt_cmpR op_notN (pv 7) pe_non (nomark _)) (pss_one (ps_expr (pe_bm PySem.F.plainAttrs_list PySem.F.slot_list_append PySem.F.type_list_append mt_append (pv 4) (pa_cons (pe_op op_mulW (pv 7) (pv 5)) pa_nil)))) pss_nil)
      (pss_one (ps_aug (i := 5) sc_least_from.nd rfl (Or.inl rfl) (pe_ix ix_list (pv 0) (pe_un un_neg pe_int) (fun _ _ => rfl)) ip_mul)))))
      (pss_one (ps_ret (pe_callB (cr_min rfl) (by rfl) m_min (by decide +kernel) (pa_cons (pv 4) pa_nil)))))))))))
theorem ok_least_of_manyX (F : FnP K "least_of_many" s_least_of_manyX f fd) (g : mg "least_of_many" = some (.ref f)) (F_is_made_ofX : FnX P w K mg base "is_made_of" 4 ["row", "thing"] (sp_is_made_ofX K)) (F_least_from : Fn P w K mg base "least_from" 8 ["row", "many", "number"] (sp_least_from K)) (g_MOST : ∃ t, mg "MOST" = some (.int 1000000000000000000000000000000 t)) : FnX P w K mg base "least_of_many" 9 ["row", "many", "number"] (sp_least_of_manyX K) := by
  obtain ⟨_, g_MOST⟩ := g_MOST
  refine ⟨f, fd, F.ok (CX := L2.CX P w) (k := 8) sc_least_of_manyX (fun vs H Q E h => by first | (obtain ⟨_, _, rfl, _⟩ := h; rfl) | (obtain ⟨_, _, _, rfl, _⟩ := h; rfl) | (obtain ⟨_, _, _, _, rfl, _⟩ := h; rfl) | (obtain ⟨_, _, _, _, _, rfl, _⟩ := h; rfl) | (obtain ⟨_, _, _, _, _, _, rfl, _⟩ := h; rfl) | (obtain ⟨_, _, _, _, _, _, _, rfl, _⟩ := h; rfl) | (obtain ⟨_, _, _, _, _, _, _, _, rfl, _⟩ := h; rfl) | (obtain ⟨_, _, _, _, _, _, _, _, _, rfl, _⟩ := h; rfl) | (obtain ⟨_, _, _, _, _, _, _, _, _, _, rfl, _⟩ := h; rfl) | (obtain ⟨_, _, _, _, _, _, _, _, _, _, _, rfl, _⟩ := h; rfl) | (obtain ⟨_, _, _, _, _, _, _, _, _, _, _, _, rfl, _⟩ := h; rfl) | (obtain ⟨_, _, _, _, _, _, _, _, _, _, _, _, _, rfl, _⟩ := h; rfl) | (obtain ⟨_, _, _, _, _, _, _, _, _, _, _, _, _, _, rfl, _⟩ := h; rfl) | (obtain ⟨_, _, _, _, _, _, _, _, _, _, _, _, _, _, _, rfl, _⟩ := h; rfl)) (fun cdv A outer s H vs Q E hr h => ⟨t_least_of_manyX K E, ?_, r_least_of_manyX h⟩), g, F.kp, F.bindsN fun _ _ _ _ _ _ us hl => match us, hl with | [_, _, _], _ => rfl⟩
  exact (pss_fg (pss_cons (ps_expr (pe_fnX F_is_made_ofX (hr.mono (by decide)) (takes_of rfl rfl rfl rfl) (pa_cons (pv 0) (pa_cons pe_int pa_nil))))
      (pss_cons (ps_set (i := 3) sc_least_of_manyX.nd rfl (Or.inl rfl) (pe_fn F_least_from (hr.mono (by decide)) (pa_cons (pv 0) (pa_cons (pv 1) (pa_cons (pv 2) pa_nil)))))
      (pss_cons (ps_if (PW.pt (pw_or (pt_cmpR op_isN (pv 3) pe_non (nomark _)) (pw_or1 (pt_cmpR op_gt (pv 3) (pe_glob (by rfl) g_MOST ⟨_, rfl⟩) (nomark _))))) (pss_one (ps_ret pe_non)) pss_nil)
      (pss_one (ps_ret (pv 3)))))))
theorem ok_last_neighbourX (F : FnP K "last_neighbour" s_last_neighbourX f fd) (g : mg "last_neighbour" = some (.ref f)) (F_neighboursX : FnX P w K mg base "neighbours" 5 ["row", "bound"] (sp_neighboursX K)) : FnX P w K mg base "last_neighbour" 6 ["row", "bound"] (sp_last_neighbourX K) := by
  refine ⟨f, fd, F.ok (CX := L2.CX P w) (k := 5) sc_last_neighbourX (fun vs H Q E h => by first | (obtain ⟨_, _, rfl, _⟩ := h; rfl) | (obtain ⟨_, _, _, rfl, _⟩ := h; rfl) | (obtain ⟨_, _, _, _, rfl, _⟩ := h; rfl) | (obtain ⟨_, _, _, _, _, rfl, _⟩ := h; rfl) | (obtain ⟨_, _, _, _, _, _, rfl, _⟩ := h; rfl) | (obtain ⟨_, _, _, _, _, _, _, rfl, _⟩ := h; rfl) | (obtain ⟨_, _, _, _, _, _, _, _, rfl, _⟩ := h; rfl) | (obtain ⟨_, _, _, _, _, _, _, _, _, rfl, _⟩ := h; rfl) | (obtain ⟨_, _, _, _, _, _, _, _, _, _, rfl, _⟩ := h; rfl) | (obtain ⟨_, _, _, _, _, _, _, _, _, _, _, rfl, _⟩ := h; rfl) | (obtain ⟨_, _, _, _, _, _, _, _, _, _, _, _, rfl, _⟩ := h; rfl) | (obtain ⟨_, _, _, _, _, _, _, _, _, _, _, _, _, rfl, _⟩ := h; rfl) | (obtain ⟨_, _, _, _, _, _, _, _, _, _, _, _, _, _, rfl, _⟩ := h; rfl) | (obtain ⟨_, _, _, _, _, _, _, _, _, _, _, _, _, _, _, rfl, _⟩ := h; rfl)) (fun cdv A outer s H vs Q E hr h => ⟨t_last_neighbourX K E, ?_, r_last_neighbourX h⟩), g, F.kp, F.bindsN fun _ _ _ _ _ _ us hl => match us, hl with | [_, _], _ => rfl⟩
  exact (pss_fg (pss_cons (ps_set (i := 2) sc_last_neighbourX.nd rfl (Or.inl rfl) (pe_fnX F_neighboursX (hr.mono (by decide)) (takes_of rfl rfl rfl rfl) (pa_cons (pv 0) (pa_cons (pv 1) pa_nil))))
      (pss_cons (ps_if (pt_fg (pt_cmpR (op_eqD hr.units) (pv 2) (pe_lst pa_nil) (nomark _))) (pss_one (ps_ret pe_non)) pss_nil)
      (pss_one (ps_ret (pe_ix ix_list (pv 2) (pe_un un_neg pe_int) (fun _ _ => rfl)))))))
theorem ok_many_neighboursX (F : FnP K "many_neighbours" s_many_neighboursX f fd) (g : mg "many_neighbours" = some (.ref f)) (F_neighboursX : FnX P w K mg base "neighbours" 5 ["row", "bound"] (sp_neighboursX K)) (m_len : mg "len" = none) : FnX P w K mg base "many_neighbours" 6 ["row", "bound"] (sp_many_neighboursX K) := by
  refine ⟨f, fd, F.ok (CX := L2.CX P w) (k := 5) sc_many_neighboursX (fun vs H Q E h => by first | (obtain ⟨_, _, rfl, _⟩ := h; rfl) | (obtain ⟨_, _, _, rfl, _⟩ := h; rfl) | (obtain ⟨_, _, _, _, rfl, _⟩ := h; rfl) | (obtain ⟨_, _, _, _, _, rfl, _⟩ := h; rfl) | (obtain ⟨_, _, _, _, _, _, rfl, _⟩ := h; rfl) | (obtain ⟨_, _, _, _, _, _, _, rfl, _⟩ := h; rfl) | (obtain ⟨_, _, _, _, _, _, _, _, rfl, _⟩ := h; rfl) | (obtain ⟨_, _, _, _, _, _, _, _, _, rfl, _⟩ := h; rfl) | (obtain ⟨_, _, _, _, _, _, _, _, _, _, rfl, _⟩ := h; rfl) | (obtain ⟨_, _, _, _, _, _, _, _, _, _, _, rfl, _⟩ := h; rfl) | (obtain ⟨_, _, _, _, _, _, _, _, _, _, _, _, rfl, _⟩ := h; rfl) | (obtain ⟨_, _, _, _, _, _, _, _, _, _, _, _, _, rfl, _⟩ := h; rfl) | (obtain ⟨_, _, _, _, _, _, _, _, _, _, _, _, _, _, rfl, _⟩ := h; rfl) | (obtain ⟨_, _, _, _, _, _, _, _, _, _, _, _, _, _, _, rfl, _⟩ := h; rfl)) (fun cdv A outer s H vs Q E hr h => ⟨t_many_neighboursX K E, ?_, r_many_neighboursX h⟩), g, F.kp, F.bindsN fun _ _ _ _ _ _ us hl => match us, hl with | [_, _], _ => rfl⟩
  exact (pss_fg (pss_one (ps_ret (pe_fg (pe_callB call_len_seq (by rfl) m_len (by decide +kernel) (pa_cons (pe_fnX F_neighboursX (hr.mono (by decide)) (takes_of rfl rfl rfl rfl) (pa_cons (pv 0) (pa_cons (pv 1) pa_nil))) pa_nil))))))
theorem ok_many_with (F : FnP K "many_with" s_many_with f fd) (g : mg "many_with" = some (.ref f)) (F_by_greatest : Fn P w K mg base "by_greatest" 2 ["bound"] (sp_by_greatest K)) (m_sum : mg "sum" = none) : Fn P w K mg base "many_with" 3 ["bound", "most"] (sp_many_with K) := by
  refine ⟨f, fd, F.ok (k := 2) sc_many_with (fun vs H Q E h => by first | (obtain ⟨_, _, rfl, _⟩ := h; rfl) | (obtain ⟨_, _, _, rfl, _⟩ := h; rfl) | (obtain ⟨_, _, _, _, rfl, _⟩ := h; rfl) | (obtain ⟨_, _, _, _, _, rfl, _⟩ := h; rfl) | (obtain ⟨_, _, _, _, _, _, rfl, _⟩ := h; rfl) | (obtain ⟨_, _, _, _, _, _, _, rfl, _⟩ := h; rfl) | (obtain ⟨_, _, _, _, _, _, _, _, rfl, _⟩ := h; rfl) | (obtain ⟨_, _, _, _, _, _, _, _, _, rfl, _⟩ := h; rfl) | (obtain ⟨_, _, _, _, _, _, _, _, _, _, rfl, _⟩ := h; rfl) | (obtain ⟨_, _, _, _, _, _, _, _, _, _, _, rfl, _⟩ := h; rfl) | (obtain ⟨_, _, _, _, _, _, _, _, _, _, _, _, rfl, _⟩ := h; rfl) | (obtain ⟨_, _, _, _, _, _, _, _, _, _, _, _, _, rfl, _⟩ := h; rfl) | (obtain ⟨_, _, _, _, _, _, _, _, _, _, _, _, _, _, rfl, _⟩ := h; rfl) | (obtain ⟨_, _, _, _, _, _, _, _, _, _, _, _, _, _, _, rfl, _⟩ := h; rfl)) (fun cdv A outer s H vs Q E hr h => ⟨t_many_with K, PSs.nox ?_, r_many_with h⟩), g, F.kp, F.bindsN fun _ _ _ _ _ _ us hl => match us, hl with | [_, _], _ => rfl⟩
  exact (pss_fg (pss_one (ps_ret (pe_callB (cr_sum rfl) (by rfl) m_sum (by decide +kernel) (pa_cons (pe_lc (own := [("part", 2), ("count", 3)]) (g := (gTup K 2 (gCons (gName 2) (gCons (gName 3) gNil)))) (tt := (tTest (tOp oLe (tVar 2) (tVar 1)))) rfl sc_many_with.nd (pi_list (pe_fn F_by_greatest (hr.mono (by decide)) (pa_cons (pv 0) pa_nil))) (blkOk_by (N := N_many_with) (sc := defScope s_many_with) (by decide +kernel)) (fun _ _ _ _ _ => (pg_tup rfl (pgs_cons (pg_name (i := 2) sc_many_with.nd rfl (Or.inl rfl)) (pgs_cons (pg_name (i := 3) sc_many_with.nd rfl (Or.inl rfl)) pgs_nil)))) (fun _ _ _ _ _ => (pts_one (pt_cmpR op_le (pv 2) (pv 1) (nomark _)))) (fun _ _ _ _ _ => (pv 3))) pa_nil)))))
theorem ok_least_boundX (F : FnP K "least_bound" s_least_boundX f fd) (g : mg "least_bound" = some (.ref f)) (F_by_greatest : Fn P w K mg base "by_greatest" 2 ["bound"] (sp_by_greatest K)) (m_bool : mg "bool" = none) (m_int : mg "int" = none) (m_isinstance : mg "isinstance" = none) (g_NoPlace : mg "NoPlace" = some (.ref (He.ga K "NoPlace"))) (hX : Errs2 K) : FnX P w K mg base "least_bound" 3 ["bound", "many"] (sp_least_boundX K) := by
  refine ⟨f, fd, F.ok (CX := L2.CX P w) (k := 2) sc_least_boundX (fun vs H Q E h => by first | (obtain ⟨_, _, rfl, _⟩ := h; rfl) | (obtain ⟨_, _, _, rfl, _⟩ := h; rfl) | (obtain ⟨_, _, _, _, rfl, _⟩ := h; rfl) | (obtain ⟨_, _, _, _, _, rfl, _⟩ := h; rfl) | (obtain ⟨_, _, _, _, _, _, rfl, _⟩ := h; rfl) | (obtain ⟨_, _, _, _, _, _, _, rfl, _⟩ := h; rfl) | (obtain ⟨_, _, _, _, _, _, _, _, rfl, _⟩ := h; rfl) | (obtain ⟨_, _, _, _, _, _, _, _, _, rfl, _⟩ := h; rfl) | (obtain ⟨_, _, _, _, _, _, _, _, _, _, rfl, _⟩ := h; rfl) | (obtain ⟨_, _, _, _, _, _, _, _, _, _, _, rfl, _⟩ := h; rfl) | (obtain ⟨_, _, _, _, _, _, _, _, _, _, _, _, rfl, _⟩ := h; rfl) | (obtain ⟨_, _, _, _, _, _, _, _, _, _, _, _, _, rfl, _⟩ := h; rfl) | (obtain ⟨_, _, _, _, _, _, _, _, _, _, _, _, _, _, rfl, _⟩ := h; rfl) | (obtain ⟨_, _, _, _, _, _, _, _, _, _, _, _, _, _, _, rfl, _⟩ := h; rfl)) (fun cdv A outer s H vs Q E hr h => ⟨t_least_boundX K E, ?_, r_least_boundX h⟩), g, F.kp, F.bindsN fun _ _ _ _ _ _ us hl => match us, hl with | [_, _], _ => rfl⟩
  exact (pss_fg (pss_cons (ps_if (PW.pt (pw_or (pt_not (pt_val (pe_callB call_isi (by rfl) m_isinstance (by decide +kernel) (pa_cons (pv 1) (pa_cons (pe_bltn (v := .ty "int") (by rfl) m_int (by decide +kernel) rfl) pa_nil))))) (pw_or (pt_val (pe_callB call_isi (by rfl) m_isinstance (by decide +kernel) (pa_cons (pv 1) (pa_cons (pe_bltn (v := .ty "bool") (by rfl) m_bool (by decide +kernel) rfl) pa_nil)))) (pw_or1 (pt_not (pt_chain op_le op_le pe_int (pv 1) (pv 0))))))) (pss_one (ps_rai (hX "NoPlace" (by decide)) g_NoPlace rfl (takes_of rfl rfl rfl rfl))) pss_nil)
      (pss_cons (ps_set (i := 2) sc_least_boundX.nd rfl (Or.inl rfl) (pv 1))
      (pss_cons (ps_for (passes_of rfl) rfl (pi_list (pe_fn F_by_greatest (hr.mono (by decide)) (pa_cons (pv 0) pa_nil))) (pg_tup rfl (pgs_cons (pg_name (i := 3) sc_least_boundX.nd rfl (Or.inl rfl)) (pgs_cons (pg_name (i := 4) sc_least_boundX.nd rfl (Or.inl rfl)) pgs_nil))) (pss_cons (ps_aug (i := 2) sc_least_boundX.nd rfl (Or.inl rfl) (pv 4) ip_sub)
      (pss_one (ps_if (pt_cmpR op_le (pv 2) pe_int (nomark _)) (pss_one ps_break) pss_nil))))
      (pss_one (ps_ret (pv 3)))))))
theorem ok_law_askedG (F : FnP K "_law_asked" s_law_askedG f fd) (g : mg "_law_asked" = some (.ref f)) (F_neighboursX : FnX P w K mg base "neighbours" 5 ["row", "bound"] (sp_neighboursX K)) (F_many_neighboursX : FnX P w K mg base "many_neighbours" 6 ["row", "bound"] (sp_many_neighboursX K)) (F_last_neighbourX : FnX P w K mg base "last_neighbour" 6 ["row", "bound"] (sp_last_neighbourX K)) (F_by_greatest : Fn P w K mg base "by_greatest" 2 ["bound"] (sp_by_greatest K)) (F_least_boundX : FnX P w K mg base "least_bound" 3 ["bound", "many"] (sp_least_boundX K)) (F_many_with : Fn P w K mg base "many_with" 3 ["bound", "most"] (sp_many_with K)) (F_least_of_manyX : FnX P w K mg base "least_of_many" 9 ["row", "many", "number"] (sp_least_of_manyX K)) (F_nearestX : FnX P w K mg base "nearest" 5 ["row", "number"] (sp_nearestX K)) : Fn P w K mg base "_law_asked" 10 ["at", "row", "number"] (sp_law_askedG K) := by
  refine ⟨f, fd, F.ok (k := 9) sc_law_askedG (fun vs H Q E h => by first | (obtain ⟨_, _, rfl, _⟩ := h; rfl) | (obtain ⟨_, _, _, rfl, _⟩ := h; rfl) | (obtain ⟨_, _, _, _, rfl, _⟩ := h; rfl) | (obtain ⟨_, _, _, _, _, rfl, _⟩ := h; rfl) | (obtain ⟨_, _, _, _, _, _, rfl, _⟩ := h; rfl) | (obtain ⟨_, _, _, _, _, _, _, rfl, _⟩ := h; rfl) | (obtain ⟨_, _, _, _, _, _, _, _, rfl, _⟩ := h; rfl) | (obtain ⟨_, _, _, _, _, _, _, _, _, rfl, _⟩ := h; rfl) | (obtain ⟨_, _, _, _, _, _, _, _, _, _, rfl, _⟩ := h; rfl) | (obtain ⟨_, _, _, _, _, _, _, _, _, _, _, rfl, _⟩ := h; rfl) | (obtain ⟨_, _, _, _, _, _, _, _, _, _, _, _, rfl, _⟩ := h; rfl) | (obtain ⟨_, _, _, _, _, _, _, _, _, _, _, _, _, rfl, _⟩ := h; rfl) | (obtain ⟨_, _, _, _, _, _, _, _, _, _, _, _, _, _, rfl, _⟩ := h; rfl) | (obtain ⟨_, _, _, _, _, _, _, _, _, _, _, _, _, _, _, rfl, _⟩ := h; rfl)) (fun cdv A outer s H vs Q E hr h => ⟨t_law_askedG K, PSs.nox ?_, r_law_askedG h⟩), g, F.kp, F.bindsN fun _ _ _ _ _ _ us hl => match us, hl with | [_, _, _], _ => rfl⟩
  exact (pss_fg (pss_cons (ps_if (pt_cmpR op_eq (pv 0) pe_int (nomark _)) (pss_one (ps_ret (pe_fnX0 F_neighboursX (hr.mono (by decide)) (pa_cons (pv 1) (pa_cons (pv 2) pa_nil))))) pss_nil)
      (pss_cons (ps_if (pt_cmpR op_eq (pv 0) pe_int (nomark _)) (pss_one (ps_ret (pe_lst (pa_cons (pe_fnX0 F_last_neighbourX (hr.mono (by decide)) (pa_cons (pv 1) (pa_cons (pv 2) pa_nil))) (pa_cons (pe_fnX0 F_many_neighboursX (hr.mono (by decide)) (pa_cons (pv 1) (pa_cons (pv 2) pa_nil))) pa_nil))))) pss_nil)
      (pss_cons (ps_if (pt_cmpR op_eq (pv 0) pe_int (nomark _)) (pss_one (ps_ret (pe_fn F_by_greatest (hr.mono (by decide)) (pa_cons (pv 2) pa_nil)))) pss_nil)
      (pss_cons (ps_if (pt_cmpR op_eq (pv 0) pe_int (nomark _)) (pss_one (ps_ret (pe_lst (pa_cons (pe_fn F_many_with (hr.mono (by decide)) (pa_cons (pv 2) (pa_cons (pe_ix ix_list (pv 1) pe_int (fun _ _ => rfl)) pa_nil))) (pa_cons (pe_fnX0 F_least_boundX (hr.mono (by decide)) (pa_cons (pv 2) (pa_cons (pe_op op_add pe_int (pe_op op_fdivW (pv 2) pe_int)) pa_nil))) pa_nil))))) pss_nil)
      (pss_one (ps_ret (pe_lst (pa_cons (pe_fnX0 F_nearestX (hr.mono (by decide)) (pa_cons (pv 1) (pa_cons (pv 2) pa_nil))) (pa_cons (pe_fnX0 F_least_of_manyX (hr.mono (by decide)) (pa_cons (pv 1) (pa_cons (pe_op op_mod (pv 2) pe_int) (pa_cons (pv 2) pa_nil)))) pa_nil))))))))))
theorem ok_law_row (F : FnP K "_law_row" s_law_row f fd) (g : mg "_law_row" = some (.ref f)) (F_law_draw : Fn P w K mg base "_law_draw" 1 ["hand", "limit"] (sp_law_draw K)) (m_int : mg "int" = none) (m_len : mg "len" = none) (m_range : mg "range" = none) (m_sorted : mg "sorted" = none) : Fn P w K mg base "_law_row" 2 ["hand"] (sp_law_row K) := by
  refine ⟨f, fd, F.ok (k := 1) sc_law_row (fun vs H Q E h => by first | (obtain ⟨_, _, rfl, _⟩ := h; rfl) | (obtain ⟨_, _, _, rfl, _⟩ := h; rfl) | (obtain ⟨_, _, _, _, rfl, _⟩ := h; rfl) | (obtain ⟨_, _, _, _, _, rfl, _⟩ := h; rfl) | (obtain ⟨_, _, _, _, _, _, rfl, _⟩ := h; rfl) | (obtain ⟨_, _, _, _, _, _, _, rfl, _⟩ := h; rfl) | (obtain ⟨_, _, _, _, _, _, _, _, rfl, _⟩ := h; rfl) | (obtain ⟨_, _, _, _, _, _, _, _, _, rfl, _⟩ := h; rfl) | (obtain ⟨_, _, _, _, _, _, _, _, _, _, rfl, _⟩ := h; rfl) | (obtain ⟨_, _, _, _, _, _, _, _, _, _, _, rfl, _⟩ := h; rfl) | (obtain ⟨_, _, _, _, _, _, _, _, _, _, _, _, rfl, _⟩ := h; rfl) | (obtain ⟨_, _, _, _, _, _, _, _, _, _, _, _, _, rfl, _⟩ := h; rfl) | (obtain ⟨_, _, _, _, _, _, _, _, _, _, _, _, _, _, rfl, _⟩ := h; rfl) | (obtain ⟨_, _, _, _, _, _, _, _, _, _, _, _, _, _, _, rfl, _⟩ := h; rfl)) (fun cdv A outer s H vs Q E hr h => ⟨t_law_row K, PSs.nox ?_, r_law_row h⟩), g, F.kp, F.bindsN fun _ _ _ _ _ _ us hl => match us, hl with | [_], _ => rfl⟩
  exact (pss_fg (pss_cons (ps_set (i := 1) sc_law_row.nd rfl (Or.inl rfl) (pe_lst (pa_cons pe_int (pa_cons pe_int (pa_cons pe_int (pa_cons pe_int (pa_cons pe_int (pa_cons pe_int (pa_cons pe_int (pa_cons pe_int (pa_cons pe_int (pa_cons pe_int (pa_cons pe_int (pa_cons pe_int (pa_cons pe_int (pa_cons pe_int (pa_cons pe_int (pa_cons pe_int (pa_cons pe_int (pa_cons pe_int (pa_cons pe_int (pa_cons pe_int (pa_cons pe_int (pa_cons pe_int (pa_cons pe_int (pa_cons pe_int (pa_cons pe_int pa_nil)))))))))))))))))))))))))))
      (pss_cons (ps_set (i := 2) sc_law_row.nd rfl (Or.inl rfl) (pe_op op_add pe_int (pe_fn F_law_draw (hr.mono (by decide)) (pa_cons (pv 0) (pa_cons pe_int pa_nil)))))
      (pss_cons (ps_set (i := 3) sc_law_row.nd rfl (Or.inl rfl) (pe_fn F_law_draw (hr.mono (by decide)) (pa_cons (pv 0) (pa_cons pe_int pa_nil))))
      (pss_cons (ps_if (pt_cmpR op_eq (pv 3) pe_int (nomark _)) (pss_one (ps_ret (pe_slice sl_list (pv 1) po_none (po_some (pv 2))))) pss_nil)
      (pss_cons (ps_if (pt_cmpR op_eq (pv 3) pe_int (nomark _)) (pss_cons (ps_set (i := 4) sc_law_row.nd rfl (Or.inl rfl) (pe_fn F_law_draw (hr.mono (by decide)) (pa_cons (pv 0) (pa_cons (pe_op op_sub pe_int (pv 2)) pa_nil))))
      (pss_one (ps_ret (pe_slice sl_list (pv 1) (po_some (pv 4)) (po_some (pe_op op_add (pv 4) (pv 2))))))) pss_nil)
      (pss_cons (ps_set (i := 5) sc_law_row.nd rfl (Or.inr rfl) (pe_slice sl_list (pv 1) (po_some (pe_ix ix_list (pe_lst (pa_cons pe_int (pa_cons pe_int (pa_cons pe_int (pa_cons pe_int pa_nil))))) (pv 3) (fun _ _ => rfl))) po_none))
      (pss_cons (ps_setLc (i := 6) (own := [("k", 7)]) (g := (gName 7)) (tt := tYes) rfl sc_law_row.nd rfl rfl (sw_true rfl rfl rfl (by decide +kernel)) (pi_range1 (by rfl) m_range (pa_cons (pv 2) pa_nil)) (blkOk_by (N := N_law_row) (sc := defScope s_law_row) (by decide +kernel)) (fun _ _ _ _ _ => (pg_name (i := 7) sc_law_row.nd rfl (Or.inl rfl))) (fun _ _ _ _ _ => pts_nil) (fun _ _ _ _ _ => (pe_bm PySem.F.plainAttrs_list PySem.F.slot_list_pop PySem.F.type_list_pop mt_popAt (pv 5) (pa_cons (pe_fn F_law_draw (hr.mono (by decide)) (pa_cons (pv 0) (pa_cons (pe_callB call_len_seq (by rfl) m_len (by decide +kernel) (pa_cons (pv 5) pa_nil)) pa_nil))) pa_nil))))
      (pss_one (ps_ret (pe_slice sl_list (pe_callB cr_sortedI (by rfl) m_sorted (by decide +kernel) (pa_cons (pe_op op_cat (pv 6) (pe_op op_rep (pe_lst (pa_cons pe_int pa_nil)) (pe_callTy call_int1 (by rfl) m_int (by decide +kernel) (pa_cons (pe_and (pe_cmpR op_eq (pv 3) pe_int (nomark _)) (pe_one (pe_cmpR op_notIn_seq pe_int (pv 6) (by with_unfolding_all rfl)))) pa_nil)))) pa_nil)) po_none (po_some pe_int))))))))))))
theorem ok_law_refusedG (F : FnP K "_law_refused" s_law_refusedG f fd) (g : mg "_law_refused" = some (.ref f)) (F_least_boundX : FnX P w K mg base "least_bound" 3 ["bound", "many"] (sp_least_boundX K)) (F_nearestX : FnX P w K mg base "nearest" 5 ["row", "number"] (sp_nearestX K)) (F_neighboursX : FnX P w K mg base "neighbours" 5 ["row", "bound"] (sp_neighboursX K)) (g_NoPlace : mg "NoPlace" = some (.ref (He.ga K "NoPlace"))) (g_NoPrimes : mg "NoPrimes" = some (.ref (He.ga K "NoPrimes"))) (hM : Exms2 K) : Fn P w K mg base "_law_refused" 6 ["row", "drawn", "turn"] (sp_law_refusedG K) := by
  refine ⟨f, fd, F.ok (k := 5) sc_law_refusedG (fun vs H Q E h => by first | (obtain ⟨_, _, rfl, _⟩ := h; rfl) | (obtain ⟨_, _, _, rfl, _⟩ := h; rfl) | (obtain ⟨_, _, _, _, rfl, _⟩ := h; rfl) | (obtain ⟨_, _, _, _, _, rfl, _⟩ := h; rfl) | (obtain ⟨_, _, _, _, _, _, rfl, _⟩ := h; rfl) | (obtain ⟨_, _, _, _, _, _, _, rfl, _⟩ := h; rfl) | (obtain ⟨_, _, _, _, _, _, _, _, rfl, _⟩ := h; rfl) | (obtain ⟨_, _, _, _, _, _, _, _, _, rfl, _⟩ := h; rfl) | (obtain ⟨_, _, _, _, _, _, _, _, _, _, rfl, _⟩ := h; rfl) | (obtain ⟨_, _, _, _, _, _, _, _, _, _, _, rfl, _⟩ := h; rfl) | (obtain ⟨_, _, _, _, _, _, _, _, _, _, _, _, rfl, _⟩ := h; rfl) | (obtain ⟨_, _, _, _, _, _, _, _, _, _, _, _, _, rfl, _⟩ := h; rfl) | (obtain ⟨_, _, _, _, _, _, _, _, _, _, _, _, _, _, rfl, _⟩ := h; rfl) | (obtain ⟨_, _, _, _, _, _, _, _, _, _, _, _, _, _, _, rfl, _⟩ := h; rfl)) (fun cdv A outer s H vs Q E hr h => ⟨t_law_refusedG K, PSs.nox ?_, r_law_refusedG hM h⟩), g, F.kp, F.bindsN fun _ _ _ _ _ _ us hl => match us, hl with | [_, _, _], _ => rfl⟩
  exact (pss_fg (pss_cons (ps_set (i := 3) sc_law_refusedG.nd rfl (Or.inl rfl) pe_bl)
      (pss_cons (ps_set (i := 4) sc_law_refusedG.nd rfl (Or.inl rfl) (pe_ix ix_list (pe_lst (pa_cons (pv 1) (pa_cons pe_int (pa_cons (pe_op op_sub (pe_op op_pow pe_int pe_int) pe_int) (pa_cons (pv 1) pa_nil))))) (pe_op op_mod (pv 2) pe_int) (fun _ _ => rfl)))
      (pss_cons (ps_try2 rfl rfl ⟨by rfl, by decide, .inl g_NoPlace⟩ ⟨by rfl, by decide, .inl g_NoPrimes⟩ (fun W pn xe tk po => (pss_one (ps_if (pt_cmpR op_eq (pe_op op_mod (pv 2) pe_int) pe_int (nomark _)) (pss_one (ps_expr (pe_fnX F_least_boundX (hr.mono (by decide)) tk (pa_cons (pv 1) (pa_cons (pe_ix ix_list (pe_lst (pa_cons pe_int (pa_cons (pe_op op_add (pv 1) pe_int) (pa_cons pe_non pa_nil)))) (pe_op op_fdivW (pe_op op_mod (pv 2) pe_int) pe_int) (fun _ _ => rfl)) pa_nil))))) (pss_one (ps_if (pt_cmpR op_eq (pe_op op_mod (pv 2) pe_int) pe_int (nomark _)) (pss_one (ps_expr (pe_fnX F_nearestX (hr.mono (by decide)) tk (pa_cons (pe_ix ix_list (pe_lst (pa_cons (pe_op op_cat (pv 0) (pv 0)) (pa_cons (pe_lst (pa_cons (pe_ix ix_list (pe_lst (pa_cons pe_int (pa_cons pe_int (pa_cons pe_int (pa_cons pe_int pa_nil))))) (pe_op op_mod (pv 1) pe_int) (fun _ _ => rfl)) pa_nil)) (pa_cons pe_non pa_nil)))) (pe_op op_fdivW (pe_op op_mod (pv 2) pe_int) pe_int) (fun _ _ => rfl)) (pa_cons (pv 4) pa_nil))))) (pss_one (ps_expr (pe_fnX F_neighboursX (hr.mono (by decide)) tk (pa_cons (pe_ix ix_list (pe_lst (pa_cons (pe_lst pa_nil) (pa_cons (pe_lst (pa_cons pe_int (pa_cons pe_int (pa_cons pe_int pa_nil)))) (pa_cons pe_str pa_nil)))) (pe_op op_fdivW (pe_op op_mod (pv 2) pe_int) pe_int) (fun _ _ => rfl)) (pa_cons (pv 4) pa_nil)))))))))) (fun _ _ _ _ _ _ _ => (pss_one (ps_set (i := 3) sc_law_refusedG.nd rfl (Or.inl rfl) pe_bl))))
      (pss_one (ps_ret (pv 3)))))))
theorem ok_law (F : FnP K "law" s_law f fd) (F_law_cells : Fn P w K mg base "_law_cells" 1 ["script", "many"] (sp_law_cells K)) (F_law_hand : Fn P w K mg base "_law_hand" 1 ["cell", "k"] (sp_law_hand K)) (F_law_draw : Fn P w K mg base "_law_draw" 1 ["hand", "limit"] (sp_law_draw K)) (F_law_row : Fn P w K mg base "_law_row" 2 ["hand"] (sp_law_row K)) (F_law_askedG : Fn P w K mg base "_law_asked" 10 ["at", "row", "number"] (sp_law_askedG K)) (F_law_refusedG : Fn P w K mg base "_law_refused" 6 ["row", "drawn", "turn"] (sp_law_refusedG K)) (m_list : mg "list" = none) (m_range : mg "range" = none) (m_repr : mg "repr" = none) (hS : sysB K = true) : FnG P w K mg base 11 f fd ["script"] (sp_law K) := by
  refine gn_of F (k := 10) sc_law (fun vs H Q E h => by first | (obtain ⟨_, _, rfl, _⟩ := h; rfl) | (obtain ⟨_, _, _, rfl, _⟩ := h; rfl) | (obtain ⟨_, _, _, _, rfl, _⟩ := h; rfl) | (obtain ⟨_, _, _, _, _, rfl, _⟩ := h; rfl) | (obtain ⟨_, _, _, _, _, _, rfl, _⟩ := h; rfl) | (obtain ⟨_, _, _, _, _, _, _, rfl, _⟩ := h; rfl) | (obtain ⟨_, _, _, _, _, _, _, _, rfl, _⟩ := h; rfl) | (obtain ⟨_, _, _, _, _, _, _, _, _, rfl, _⟩ := h; rfl) | (obtain ⟨_, _, _, _, _, _, _, _, _, _, rfl, _⟩ := h; rfl) | (obtain ⟨_, _, _, _, _, _, _, _, _, _, _, rfl, _⟩ := h; rfl) | (obtain ⟨_, _, _, _, _, _, _, _, _, _, _, _, rfl, _⟩ := h; rfl) | (obtain ⟨_, _, _, _, _, _, _, _, _, _, _, _, _, rfl, _⟩ := h; rfl) | (obtain ⟨_, _, _, _, _, _, _, _, _, _, _, _, _, _, rfl, _⟩ := h; rfl) | (obtain ⟨_, _, _, _, _, _, _, _, _, _, _, _, _, _, _, rfl, _⟩ := h; rfl)) (fun cdv A outer s H vs Q E hr hc h => ⟨t_law K P w, PSs.nox ?_, r_law h⟩)
  exact (pss_fg (pss_cons (ps_for PassesOwn.never rfl (pi_list (pe_fn F_law_cells (hr.mono (by decide)) (pa_cons (pv 0) (pa_cons pe_int pa_nil)))) (pg_tup rfl (pgs_cons (pg_name (i := 1) sc_law.nd rfl (Or.inl rfl)) (pgs_cons (pg_name (i := 2) sc_law.nd rfl (Or.inl rfl)) pgs_nil))) (pss_cons (ps_set (i := 3) sc_law.nd rfl (Or.inr rfl) (pe_fn F_law_hand (hr.mono (by decide)) (pa_cons (pv 2) (pa_cons (pv 1) pa_nil))))
      (pss_cons (ps_setLc (i := 4) (own := [("j", 14)]) (g := (gName 14)) (tt := tYes) rfl sc_law.nd rfl rfl (sw_true rfl rfl rfl (by decide +kernel)) (pi_range1 (by rfl) m_range (pa_cons pe_int pa_nil)) (blkOk_by (N := N_law) (sc := defScope s_law) (by decide +kernel)) (fun _ _ _ _ _ => (pg_name (i := 14) sc_law.nd rfl (Or.inl rfl))) (fun _ _ _ _ _ => pts_nil) (fun _ _ _ _ _ => (pe_tup (pa_cons (pe_fn F_law_row (hr.mono (by decide)) (pa_cons (pv 3) pa_nil)) (pa_cons (pe_op op_add pe_int (pe_fn F_law_draw (hr.mono (by decide)) (pa_cons (pv 3) (pa_cons pe_int pa_nil)))) pa_nil)))))
      (pss_cons (ps_frz (ps_set (i := 5) sc_law.nd rfl (Or.inl rfl) pe_dnewT))
      (pss_one (ps_for PassesOwn.never rfl (pi_range1 (by rfl) m_range (pa_cons pe_int pa_nil)) (pg_name (i := 6) sc_law.nd rfl (Or.inl rfl)) (pss_cons (ps_set (i := 7) sc_law.nd rfl (Or.inl rfl) (pe_fn F_law_draw (hr.mono (by decide)) (pa_cons (pv 3) (pa_cons pe_int pa_nil))))
      (pss_cons (ps_set (i := 8) sc_law.nd rfl (Or.inl rfl) (pe_fn F_law_draw (hr.mono (by decide)) (pa_cons (pv 3) (pa_cons pe_int pa_nil))))
      (pss_cons (ps_asg (pe_ix ix_list (pv 4) (pv 8) (fun _ _ => rfl)) (pg_tup rfl (pgs_cons (pg_name (i := 9) sc_law.nd rfl (Or.inl rfl)) (pgs_cons (pg_name (i := 10) sc_law.nd rfl (Or.inl rfl)) pgs_nil))))
      (pss_cons (ps_set (i := 11) sc_law.nd rfl (Or.inl rfl) (pe_callTy call_list_of (by rfl) m_list (by decide +kernel) (pa_cons (pv 9) pa_nil)))
      (pss_cons (ps_set (i := 12) sc_law.nd rfl (Or.inl rfl) (pe_fn F_law_askedG (hr.mono (by decide)) (pa_cons (pv 7) (pa_cons (pv 11) (pa_cons (pv 10) pa_nil)))))
      (pss_cons (ps_set (i := 13) sc_law.nd rfl (Or.inl rfl) (pe_callB (call_reprQ hS hr hc) (by rfl) m_repr (by decide +kernel) (pa_cons (pv 12) pa_nil)))
      (pss_cons (ps_thaw (ps_if (PW.pt (pw_or (pt_cmpR (op_neD hr.units) (pv 11) (pv 9) (nomark _)) (pw_or1 (pt_cmpR op_ne (pe_dget2 (hu_of hr) (pv 5) (pe_tup (pa_cons (pv 7) (pa_cons (pv 8) pa_nil))) (pv 13) ⟨by rfl, by rfl, by rfl, by rfl⟩) (pv 13) (nomark _))))) (pss_one (ps_ret pe_bl)) pss_nil))
      (pss_cons (ps_thaw (ps_dput (hu_of hr) (pv 5) (pe_tup (pa_cons (pv 7) (pa_cons (pv 8) pa_nil))) (pv 13) rfl))
      (pss_cons (ps_expr (pe_bm PySem.F.plainAttrs_list PySem.F.slot_list_append PySem.F.type_list_append mt_append (pv 12) (pa_cons (pe_un un_neg pe_int) pa_nil)))
      (pss_cons (ps_expr (pe_bm0 PySem.F.plainAttrs_list PySem.F.slot_list_reverse PySem.F.type_list_reverse mt_reverse (pv 12)))
      (pss_cons (ps_expr (pe_bm PySem.F.plainAttrs_list PySem.F.slot_list_append PySem.F.type_list_append mt_append (pv 11) (pa_cons pe_int pa_nil)))
      (pss_one (ps_if (pt_not (pt_val (pe_fn F_law_refusedG (hr.mono (by decide)) (pa_cons (pv 9) (pa_cons (pv 10) (pa_cons (pv 6) pa_nil)))))) (pss_one (ps_ret pe_bl)) pss_nil)))))))))))))))))))
      (pss_one (ps_ret pe_bl))))
end
/-! ### what the top has left -/
def d_law_cells : He.DefD := ⟨("_law_cells", none), "_law_cells", "_law_cells", defArgs s_law_cells, defBody s_law_cells, defScope s_law_cells, [], []⟩
def d_law_hand : He.DefD := ⟨("_law_hand", none), "_law_hand", "_law_hand", defArgs s_law_hand, defBody s_law_hand, defScope s_law_hand, [], []⟩
def d_law_draw : He.DefD := ⟨("_law_draw", none), "_law_draw", "_law_draw", defArgs s_law_draw, defBody s_law_draw, defScope s_law_draw, [], []⟩
def d_is_wholeX : He.DefD := ⟨("is_whole", none), "is_whole", "is_whole", defArgs s_is_wholeX, defBody s_is_wholeX, defScope s_is_wholeX, [], []⟩
def d_is_rowX : He.DefD := ⟨("is_row", none), "is_row", "is_row", defArgs s_is_rowX, defBody s_is_rowX, defScope s_is_rowX, [], []⟩
def d_need_rowX : He.DefD := ⟨("need_row", none), "need_row", "need_row", defArgs s_need_rowX, defBody s_need_rowX, defScope s_need_rowX, [], []⟩
def d_is_made : He.DefD := ⟨("is_made", none), "is_made", "is_made", defArgs s_is_made, defBody s_is_made, defScope s_is_made, [], []⟩
def d_is_made_ofX : He.DefD := ⟨("is_made_of", none), "is_made_of", "is_made_of", defArgs s_is_made_ofX, defBody s_is_made_ofX, defScope s_is_made_ofX, [], []⟩
def d_made_toN : He.DefD := ⟨("made_to_neighbours", none), "made_to", "made_to", defArgs s_made_toN, defBody s_made_toN, defScope s_made_toN, [], []⟩
def d_neighboursX : He.DefD := ⟨("neighbours", none), "neighbours", "neighbours", defArgs s_neighboursX, defBody s_neighboursX, defScope s_neighboursX, [], []⟩
def d_greatest_to : He.DefD := ⟨("greatest_to", none), "greatest_to", "greatest_to", defArgs s_greatest_to, defBody s_greatest_to, defScope s_greatest_to, [], []⟩
def d_by_greatest : He.DefD := ⟨("by_greatest", none), "by_greatest", "by_greatest", defArgs s_by_greatest, defBody s_by_greatest, defScope s_by_greatest, [], []⟩
def d_made_to : He.DefD := ⟨("made_to_order", none), "made_to", "made_to", defArgs s_made_to, defBody s_made_to, defScope s_made_to, [], []⟩
def d_grown : He.DefD := ⟨("grown", none), "grown", "grown", defArgs s_grown, defBody s_grown, defScope s_grown, [], []⟩
def d_next_oneX : He.DefD := ⟨("next_one", none), "next_one", "next_one", defArgs s_next_oneX, defBody s_next_oneX, defScope s_next_oneX, [], []⟩
def d_last_oneX : He.DefD := ⟨("last_one", none), "last_one", "last_one", defArgs s_last_oneX, defBody s_last_oneX, defScope s_last_oneX, [], []⟩
def d_nearestX : He.DefD := ⟨("nearest", none), "nearest", "nearest", defArgs s_nearestX, defBody s_nearestX, defScope s_nearestX, [], []⟩
def d_product_of : He.DefD := ⟨("product_of", none), "product_of", "product_of", defArgs s_product_of, defBody s_product_of, defScope s_product_of, [], []⟩
def d_least_from : He.DefD := ⟨("least_from", none), "least_from", "least_from", defArgs s_least_from, defBody s_least_from, defScope s_least_from, [], []⟩
def d_least_of_manyX : He.DefD := ⟨("least_of_many", none), "least_of_many", "least_of_many", defArgs s_least_of_manyX, defBody s_least_of_manyX, defScope s_least_of_manyX, [], []⟩
def d_last_neighbourX : He.DefD := ⟨("last_neighbour", none), "last_neighbour", "last_neighbour", defArgs s_last_neighbourX, defBody s_last_neighbourX, defScope s_last_neighbourX, [], []⟩
def d_many_neighboursX : He.DefD := ⟨("many_neighbours", none), "many_neighbours", "many_neighbours", defArgs s_many_neighboursX, defBody s_many_neighboursX, defScope s_many_neighboursX, [], []⟩
def d_many_with : He.DefD := ⟨("many_with", none), "many_with", "many_with", defArgs s_many_with, defBody s_many_with, defScope s_many_with, [], []⟩
def d_least_boundX : He.DefD := ⟨("least_bound", none), "least_bound", "least_bound", defArgs s_least_boundX, defBody s_least_boundX, defScope s_least_boundX, [], []⟩
def d_law_askedG : He.DefD := ⟨("_law_asked", none), "_law_asked", "_law_asked", defArgs s_law_askedG, defBody s_law_askedG, defScope s_law_askedG, [], []⟩
def d_law_row : He.DefD := ⟨("_law_row", none), "_law_row", "_law_row", defArgs s_law_row, defBody s_law_row, defScope s_law_row, [], []⟩
def d_law_refusedG : He.DefD := ⟨("_law_refused", none), "_law_refused", "_law_refused", defArgs s_law_refusedG, defBody s_law_refusedG, defScope s_law_refusedG, [], []⟩
def d_law : He.DefD := ⟨("law", none), "law", "law", defArgs s_law, defBody s_law, defScope s_law, [], []⟩
def fn : List He.DefD := [d_law_cells, d_law_hand, d_law_draw, d_is_wholeX, d_is_rowX, d_need_rowX, d_is_made, d_is_made_ofX, d_made_toN, d_neighboursX, d_greatest_to, d_by_greatest, d_made_to, d_grown, d_next_oneX, d_last_oneX, d_nearestX, d_product_of, d_least_from, d_least_of_manyX, d_last_neighbourX, d_many_neighboursX, d_many_with, d_least_boundX, d_law_askedG, d_law_row, d_law_refusedG, d_law]
def fa : List He.Fa := [(.glo "_law_cells" : He.Fa), (.glo "_law_hand" : He.Fa), (.glo "_law_draw" : He.Fa), (.glo "is_whole" : He.Fa), (.glo "is_row" : He.Fa), (.glo "need_row" : He.Fa), (.glo "is_made" : He.Fa), (.glo "is_made_of" : He.Fa), (.glo "made_to_neighbours" : He.Fa), (.glo "neighbours" : He.Fa), (.glo "greatest_to" : He.Fa), (.glo "by_greatest" : He.Fa), (.glo "made_to_order" : He.Fa), (.glo "grown" : He.Fa), (.glo "next_one" : He.Fa), (.glo "last_one" : He.Fa), (.glo "nearest" : He.Fa), (.glo "product_of" : He.Fa), (.glo "least_from" : He.Fa), (.glo "least_of_many" : He.Fa), (.glo "last_neighbour" : He.Fa), (.glo "many_neighbours" : He.Fa), (.glo "many_with" : He.Fa), (.glo "least_bound" : He.Fa), (.glo "_law_asked" : He.Fa), (.glo "_law_row" : He.Fa), (.glo "_law_refused" : He.Fa), (.glo "law" : He.Fa), (.free "bool" : He.Fa), (.free "enumerate" : He.Fa), (.free "int" : He.Fa), (.free "isinstance" : He.Fa), (.free "len" : He.Fa), (.free "list" : He.Fa), (.free "max" : He.Fa), (.free "min" : He.Fa), (.free "range" : He.Fa), (.free "repr" : He.Fa), (.free "sorted" : He.Fa), (.free "sum" : He.Fa), (.free "zip" : He.Fa), (.int "MOST_PRIMES" 6 : He.Fa), (.int "MOST" 1000000000000000000000000000000 : He.Fa), (.glo "PRIMES" : He.Fa), (.glo "NoPlace" : He.Fa), (.glo "NoPrimes" : He.Fa)]
def ls : List (Str × List He.Dv) := [("PRIMES", [.int 2, .int 3, .int 5, .int 7, .int 11, .int 13, .int 17, .int 19, .int 23, .int 29, .int 31, .int 37, .int 41, .int 43, .int 47, .int 53, .int 59, .int 61, .int 67, .int 71, .int 73, .int 79, .int 83, .int 89, .int 97])]
abbrev R : PySem.W.OpenRow := PySem.W.OpenLaw.row PySem.Challenge.rw_smallparts_k32_whole_again_and_shared
abbrev hk : PySem.W.Hook := hookXSM 4 fa fn ls
def ob (s : PySem.W.SharedT) : AlXSM := obsXSM 4 fa fn ls (HandSHeadRun.getT s)
theorem ob_eq (s : PySem.W.SharedT) : ob s = hk.obs s.abs := obsXSM_eq (HandSHeadRun.getT_eq s)
def loose : List Str := [("PartError" : Str), ("NoPrimes" : Str), ("NoPlace" : Str), ("PRIMES" : Str), ("MOST_PRIMES" : Str), ("is_whole" : Str), ("is_row" : Str), ("need_row" : Str), ("is_made" : Str), ("is_made_of" : Str), ("made_to" : Str), ("made_to_neighbours" : Str), ("neighbours" : Str), ("last_neighbour" : Str), ("many_neighbours" : Str), ("greatest_to" : Str), ("by_greatest" : Str), ("many_with" : Str), ("least_bound" : Str), ("made_to_order" : Str), ("grown" : Str), ("next_one" : Str), ("last_one" : Str), ("MOST" : Str), ("nearest" : Str), ("product_of" : Str), ("least_from" : Str), ("least_of_many" : Str), ("_law_hand" : Str), ("_law_draw" : Str), ("_law_cells" : Str), ("_law_row" : Str), ("_law_most" : Str), ("_law_made" : Str), ("_law_asked" : Str), ("_law_refused" : Str)]
theorem run (w : World) : HandSHeadRun.RunEq R (PySem.W.view R.prog [45]) hk ob 4000 loose w := by
  intro os
  kernel_rfl
theorem facts {P : Program} {w : World} {K : PySem.W.Frag} {h : Heap} {mg : Str → Option Value} {f : Addr} (X : K.In h) (G : h.Ns mainGlobals mg) (hfa : mg ("law" : Str) = some (.ref f)) (c : He.SaysD fa fn K) (cl : (ls.all fun q => He.lstB K q.1 q.2) = true) (ce : errB2 K = true) (cm : exmB2 K = true) (cs : sysB K = true) :
    ∃ fd : FuncData, (∀ (s : Shared) (v : Value), BindsTo s fd ⟨[v], []⟩ [("script", v)]) ∧ ∀ base : Heap, K.In base → base.Ns mainGlobals mg → FnG P w K mg base 11 f fd ["script"] (sp_law K) := by
  obtain ⟨fd_law_cells, H_law_cells⟩ := c.def_ 0 (d := d_law_cells) rfl
  obtain ⟨fd_law_hand, H_law_hand⟩ := c.def_ 1 (d := d_law_hand) rfl
  obtain ⟨fd_law_draw, H_law_draw⟩ := c.def_ 2 (d := d_law_draw) rfl
  obtain ⟨fd_is_wholeX, H_is_wholeX⟩ := c.def_ 3 (d := d_is_wholeX) rfl
  obtain ⟨fd_is_rowX, H_is_rowX⟩ := c.def_ 4 (d := d_is_rowX) rfl
  obtain ⟨fd_need_rowX, H_need_rowX⟩ := c.def_ 5 (d := d_need_rowX) rfl
  obtain ⟨fd_is_made, H_is_made⟩ := c.def_ 6 (d := d_is_made) rfl
  obtain ⟨fd_is_made_ofX, H_is_made_ofX⟩ := c.def_ 7 (d := d_is_made_ofX) rfl
  obtain ⟨fd_made_toN, H_made_toN⟩ := c.def_ 8 (d := d_made_toN) rfl
  obtain ⟨fd_neighboursX, H_neighboursX⟩ := c.def_ 9 (d := d_neighboursX) rfl
  obtain ⟨fd_greatest_to, H_greatest_to⟩ := c.def_ 10 (d := d_greatest_to) rfl
  obtain ⟨fd_by_greatest, H_by_greatest⟩ := c.def_ 11 (d := d_by_greatest) rfl
  obtain ⟨fd_made_to, H_made_to⟩ := c.def_ 12 (d := d_made_to) rfl
  obtain ⟨fd_grown, H_grown⟩ := c.def_ 13 (d := d_grown) rfl
  obtain ⟨fd_next_oneX, H_next_oneX⟩ := c.def_ 14 (d := d_next_oneX) rfl
  obtain ⟨fd_last_oneX, H_last_oneX⟩ := c.def_ 15 (d := d_last_oneX) rfl
  obtain ⟨fd_nearestX, H_nearestX⟩ := c.def_ 16 (d := d_nearestX) rfl
  obtain ⟨fd_product_of, H_product_of⟩ := c.def_ 17 (d := d_product_of) rfl
  obtain ⟨fd_least_from, H_least_from⟩ := c.def_ 18 (d := d_least_from) rfl
  obtain ⟨fd_least_of_manyX, H_least_of_manyX⟩ := c.def_ 19 (d := d_least_of_manyX) rfl
  obtain ⟨fd_last_neighbourX, H_last_neighbourX⟩ := c.def_ 20 (d := d_last_neighbourX) rfl
  obtain ⟨fd_many_neighboursX, H_many_neighboursX⟩ := c.def_ 21 (d := d_many_neighboursX) rfl
  obtain ⟨fd_many_with, H_many_with⟩ := c.def_ 22 (d := d_many_with) rfl
  obtain ⟨fd_least_boundX, H_least_boundX⟩ := c.def_ 23 (d := d_least_boundX) rfl
  obtain ⟨fd_law_askedG, H_law_askedG⟩ := c.def_ 24 (d := d_law_askedG) rfl
  obtain ⟨fd_law_row, H_law_row⟩ := c.def_ 25 (d := d_law_row) rfl
  obtain ⟨fd_law_refusedG, H_law_refusedG⟩ := c.def_ 26 (d := d_law_refusedG) rfl
  obtain ⟨fd_law, H_law⟩ := c.def_ 27 (d := d_law) rfl
  have hX : Errs2 K := errB2_ok ce
  have hM : Exms2 K := exmB2_ok cm
  have hS := cs
  have g_NoPlace := He.glo_ok X G (c.fact 44 (f := .glo "NoPlace") rfl)
  have g_NoPrimes := He.glo_ok X G (c.fact 45 (f := .glo "NoPrimes") rfl)
  have m_bool := He.free_ok X G (c.fact 28 (f := .free "bool") rfl)
  have m_enumerate := He.free_ok X G (c.fact 29 (f := .free "enumerate") rfl)
  have m_int := He.free_ok X G (c.fact 30 (f := .free "int") rfl)
  have m_isinstance := He.free_ok X G (c.fact 31 (f := .free "isinstance") rfl)
  have m_len := He.free_ok X G (c.fact 32 (f := .free "len") rfl)
  have m_list := He.free_ok X G (c.fact 33 (f := .free "list") rfl)
  have m_max := He.free_ok X G (c.fact 34 (f := .free "max") rfl)
  have m_min := He.free_ok X G (c.fact 35 (f := .free "min") rfl)
  have m_range := He.free_ok X G (c.fact 36 (f := .free "range") rfl)
  have m_repr := He.free_ok X G (c.fact 37 (f := .free "repr") rfl)
  have m_sorted := He.free_ok X G (c.fact 38 (f := .free "sorted") rfl)
  have m_sum := He.free_ok X G (c.fact 39 (f := .free "sum") rfl)
  have m_zip := He.free_ok X G (c.fact 40 (f := .free "zip") rfl)
  have g_MOST_PRIMES := He.int_ok X G (c.fact 41 (f := .int "MOST_PRIMES" 6) rfl)
  have g_MOST := He.int_ok X G (c.fact 42 (f := .int "MOST" 1000000000000000000000000000000) rfl)
  have g_PRIMES := He.glo_ok X G (c.fact 43 (f := .glo "PRIMES") rfl)
  have hP_PRIMES : PrAt K (He.ga K "PRIMES") := fun H => He.lstB_ok (lst_fact cl 0 rfl) H
  have g_law_cells := He.glo_ok X G (c.fact 0 (f := .glo "_law_cells") rfl)
  have g_law_hand := He.glo_ok X G (c.fact 1 (f := .glo "_law_hand") rfl)
  have g_law_draw := He.glo_ok X G (c.fact 2 (f := .glo "_law_draw") rfl)
  have g_is_wholeX := He.glo_ok X G (c.fact 3 (f := .glo "is_whole") rfl)
  have g_is_rowX := He.glo_ok X G (c.fact 4 (f := .glo "is_row") rfl)
  have g_need_rowX := He.glo_ok X G (c.fact 5 (f := .glo "need_row") rfl)
  have g_is_made := He.glo_ok X G (c.fact 6 (f := .glo "is_made") rfl)
  have g_is_made_ofX := He.glo_ok X G (c.fact 7 (f := .glo "is_made_of") rfl)
  have g_made_toN := He.glo_ok X G (c.fact 8 (f := .glo "made_to_neighbours") rfl)
  have g_neighboursX := He.glo_ok X G (c.fact 9 (f := .glo "neighbours") rfl)
  have g_greatest_to := He.glo_ok X G (c.fact 10 (f := .glo "greatest_to") rfl)
  have g_by_greatest := He.glo_ok X G (c.fact 11 (f := .glo "by_greatest") rfl)
  have g_made_to := He.glo_ok X G (c.fact 12 (f := .glo "made_to_order") rfl)
  have g_grown := He.glo_ok X G (c.fact 13 (f := .glo "grown") rfl)
  have g_next_oneX := He.glo_ok X G (c.fact 14 (f := .glo "next_one") rfl)
  have g_last_oneX := He.glo_ok X G (c.fact 15 (f := .glo "last_one") rfl)
  have g_nearestX := He.glo_ok X G (c.fact 16 (f := .glo "nearest") rfl)
  have g_product_of := He.glo_ok X G (c.fact 17 (f := .glo "product_of") rfl)
  have g_least_from := He.glo_ok X G (c.fact 18 (f := .glo "least_from") rfl)
  have g_least_of_manyX := He.glo_ok X G (c.fact 19 (f := .glo "least_of_many") rfl)
  have g_last_neighbourX := He.glo_ok X G (c.fact 20 (f := .glo "last_neighbour") rfl)
  have g_many_neighboursX := He.glo_ok X G (c.fact 21 (f := .glo "many_neighbours") rfl)
  have g_many_with := He.glo_ok X G (c.fact 22 (f := .glo "many_with") rfl)
  have g_least_boundX := He.glo_ok X G (c.fact 23 (f := .glo "least_bound") rfl)
  have g_law_askedG := He.glo_ok X G (c.fact 24 (f := .glo "_law_asked") rfl)
  have g_law_row := He.glo_ok X G (c.fact 25 (f := .glo "_law_row") rfl)
  have g_law_refusedG := He.glo_ok X G (c.fact 26 (f := .glo "_law_refused") rfl)
  have g_law := He.glo_ok X G (c.fact 27 (f := .glo "law") rfl)
  have e := hfa.symm.trans g_law
  cases e
  have b := FunD.bindsA (ps := ["script"]) H_law fun _ _ _ _ _ _ us hl => match us, hl with | [_], _ => rfl
  refine ⟨fd_law, fun s v => b s [v] rfl, fun base _ _ => ?_⟩
  have F_law_cells := ok_law_cells (P := P) (w := w) (base := base) H_law_cells g_law_cells m_enumerate m_int m_list
  have F_law_hand := ok_law_hand (P := P) (w := w) (base := base) H_law_hand g_law_hand 
  have F_law_draw := ok_law_draw (P := P) (w := w) (base := base) H_law_draw g_law_draw 
  have F_is_wholeX := ok_is_wholeX (P := P) (w := w) (base := base) H_is_wholeX g_is_wholeX m_bool m_int m_isinstance
  have F_is_rowX := ok_is_rowX (P := P) (w := w) (base := base) H_is_rowX g_is_rowX F_is_wholeX m_isinstance m_len m_list m_zip g_MOST_PRIMES g_PRIMES hP_PRIMES
  have F_need_rowX := ok_need_rowX (P := P) (w := w) (base := base) H_need_rowX g_need_rowX F_is_rowX g_NoPrimes hX
  have F_is_made := ok_is_made (P := P) (w := w) (base := base) H_is_made g_is_made 
  have F_is_made_ofX := ok_is_made_ofX (P := P) (w := w) (base := base) H_is_made_ofX g_is_made_ofX F_need_rowX F_is_wholeX F_is_made
  have F_made_toN := ok_made_toN (P := P) (w := w) (base := base) H_made_toN g_made_toN m_sorted
  have F_neighboursX := ok_neighboursX (P := P) (w := w) (base := base) H_neighboursX g_neighboursX F_is_made_ofX F_made_toN m_zip
  have F_greatest_to := ok_greatest_to (P := P) (w := w) (base := base) H_greatest_to g_greatest_to m_range
  have F_by_greatest := ok_by_greatest (P := P) (w := w) (base := base) H_by_greatest g_by_greatest F_greatest_to m_sorted
  have F_made_to := ok_made_to (P := P) (w := w) (base := base) H_made_to g_made_to m_int m_len
  have F_grown := ok_grown (P := P) (w := w) (base := base) H_grown g_grown 
  have F_next_oneX := ok_next_oneX (P := P) (w := w) (base := base) H_next_oneX g_next_oneX F_need_rowX F_grown F_made_to m_min
  have F_last_oneX := ok_last_oneX (P := P) (w := w) (base := base) H_last_oneX g_last_oneX F_need_rowX F_made_to F_grown m_max
  have F_nearestX := ok_nearestX (P := P) (w := w) (base := base) H_nearestX g_nearestX F_next_oneX F_last_oneX
  have F_product_of := ok_product_of (P := P) (w := w) (base := base) H_product_of g_product_of m_range
  have F_least_from : Fn P w K mg base "least_from" 8 _ (sp_least_from K) := okD_least_from (P := P) (w := w) (base := base) H_least_from g_least_from F_product_of m_min m_range 7
  have F_least_of_manyX := ok_least_of_manyX (P := P) (w := w) (base := base) H_least_of_manyX g_least_of_manyX F_is_made_ofX F_least_from g_MOST
  have F_last_neighbourX := ok_last_neighbourX (P := P) (w := w) (base := base) H_last_neighbourX g_last_neighbourX F_neighboursX
  have F_many_neighboursX := ok_many_neighboursX (P := P) (w := w) (base := base) H_many_neighboursX g_many_neighboursX F_neighboursX m_len
  have F_many_with := ok_many_with (P := P) (w := w) (base := base) H_many_with g_many_with F_by_greatest m_sum
  have F_least_boundX := ok_least_boundX (P := P) (w := w) (base := base) H_least_boundX g_least_boundX F_by_greatest m_bool m_int m_isinstance g_NoPlace hX
  have F_law_askedG := ok_law_askedG (P := P) (w := w) (base := base) H_law_askedG g_law_askedG F_neighboursX F_many_neighboursX F_last_neighbourX F_by_greatest F_least_boundX F_many_with F_least_of_manyX F_nearestX
  have F_law_row := ok_law_row (P := P) (w := w) (base := base) H_law_row g_law_row F_law_draw m_int m_len m_range m_sorted
  have F_law_refusedG := ok_law_refusedG (P := P) (w := w) (base := base) H_law_refusedG g_law_refusedG F_least_boundX F_nearestX F_neighboursX g_NoPlace g_NoPrimes hM
  exact ok_law H_law F_law_cells F_law_hand F_law_draw F_law_row F_law_askedG F_law_refusedG m_list m_range m_repr hS
end K32
open PySem PySem.W PySem.Calls PyProof.Rows
theorem PySem.Challenge.cw_smallparts_k32_whole_again_and_shared_holds : PySem.Challenge.rw_smallparts_k32_whole_again_and_shared.Holds := by
  w_on; o_law
  refine HandSHeadRun.head_any (r := OpenLaw.row PySem.Challenge.rw_smallparts_k32_whole_again_and_shared) (q := view (OpenLaw.row PySem.Challenge.rw_smallparts_k32_whole_again_and_shared).prog [45]) (H := K32.hk) (ob := K32.ob) (M := 4000) (loose := K32.loose) (d := HandSHeadRun.topDef (OpenLaw.row PySem.Challenge.rw_smallparts_k32_whole_again_and_shared).prog 45) (kwd := []) K32.ob_eq
    (by kernel_rfl) (fun s => by kernel_rfl) K32.run (by kernel_rfl) (by kernel_rfl) (by kernel_rfl) (by rfl) (by first | assumption | decide +kernel) (by decide +kernel) ⟨rfl, rfl, rfl, rfl, rfl, by decide +kernel⟩ ?hw ?hc
  case hw => w_witness2
  case hc =>
    refine Px.walkG (l := PySem.Challenge.rw_smallparts_k32_whole_again_and_shared) (n := 63) (k := 11) (x := "script") rfl (by decide) (by kernel_rfl) ⟨rfl, by decide, by decide⟩ ?F
    intro w mg fa h Y G hmg0
    obtain ⟨K, KX, c, cl, ce, cm, cs⟩ := Y
    have hmg : mg ("law" : PySem.Str) = some (.ref fa) := by
      have e : (HandSHeadRun.topDef (OpenLaw.row PySem.Challenge.rw_smallparts_k32_whole_again_and_shared).prog 45).name = ("law" : PySem.Str) := by kernel_rfl
      rw [← e]
      exact hmg0
    obtain ⟨fd, hb, hF⟩ := K32.facts (P := (PySem.Challenge.rw_smallparts_k32_whole_again_and_shared).prog) (w := w) KX G hmg c cl ce cm cs
    exact ⟨K, fd, Px.sp_law K, KX, hb, fun H a ns hl ho hS => ⟨Px.nod_only ho, a, ns, rfl, hS, hl, fun _ => rfl⟩, hF⟩
