import PyProof.Rows.All
import Wide.All
import OpenK.AllK
import Wide.FinOn
import HandS.HeadHook2
import HandS.ForMost
import HandS.ForExc
import HandS.Style
import HandS.SortInts
import HandS.IsInst
import HandS.Wide
import HandS.Flow
import HandS.WideMore
import HandS.Walk
import HandS.Evl
import HandS.Defaults
import PyProof.Rows.StrMul
import PyProof.StrBlock2
import KE.KDictZip
import KE.KDictItemsList
import HandS.ExcIs
import HandS.ExcOwn
import HandS.HeadHook1
import HandS.SetFor
import HandS.ExcBuiltin
import HandS.ExcValue
import KE.KExcIs
import PyProof.NeKinds
import HandS.DictComp
import PyProof.ReprText
import PyProof.Rows.ReprOcc
import HandS.HeadEnd
import HandS.Words
import PyProof.ReprRoads
import PyProof.CallFns
import KE.KDictPairs
import PyProof.ReprLen
import PyProof.StrLawsRepr
import PyProof.ReprBulk
import KE.KStateDown
import Lean
import HandS.Base
import HandS.Call
import HandS.Ends
import HandS.More
import HandS.WordsExc
import HandS.Head0
import HandS.Head1
import HandS.Head2
import PySem.Challenge.RW_smallparts_k38_papers_judged
set_option Elab.async false
set_option linter.all false
namespace Px
open PySem L2
/-! what the top has left, with lists of the module's own -/
abbrev AlL : Type := He.AlD × Bool
def obsL (n : Nat) (fa : List He.Fa) (fn : List He.DefD) (ls : List (Str × List He.Dv)) (g : Addr → Option Obj) : AlL :=
  (He.obsD fa fn (He.frG g (He.asD g n)), ls.all fun q => He.lstB (He.frG g (He.asD g n)) q.1 q.2)
def hookL (n : Nat) (fa : List He.Fa) (fn : List He.DefD) (ls : List (Str × List He.Dv)) : PySem.W.Hook where
  α := AlL
  obs := fun s => obsL n fa fn ls s.heap.get?
  val := fun _ => (He.valD fn, true)
  says := fun _ h => ∃ K : PySem.W.Frag, K.In h ∧ He.SaysD fa fn K ∧ (ls.all fun q => He.lstB K q.1 q.2) = true
  of := fun _ _ e => ⟨_, He.frG_in, congrArg (fun z : AlL => z.1) e, congrArg (fun z : AlL => z.2) e⟩
  keeps := fun _ _ _ ⟨K, hK, c1, c2⟩ k => ⟨K, PySem.W.Frag.In.keeps hK k, c1, c2⟩
theorem obsL_eq {n : Nat} {fa : List He.Fa} {fn : List He.DefD} {ls : List (Str × List He.Dv)} {g : Addr → Option Obj} {s : Shared} (h : ∀ a, g a = s.heap.get? a) : obsL n fa fn ls g = (hookL n fa fn ls).obs s := by
  have e : g = s.heap.get? := funext h
  subst e; rfl
theorem lst_fact {ls : List (Str × List He.Dv)} {K : PySem.W.Frag} (h : (ls.all fun q => He.lstB K q.1 q.2) = true) (i : Nat) {x : Str} {vs : List He.Dv} (e : ls[i]? = some (x, vs)) : He.lstB K x vs = true := List.all_eq_true.mp h (x, vs) (List.mem_of_getElem? e)
end Px
set_option Elab.async false
set_option linter.all false
set_option maxRecDepth 100000
set_option maxHeartbeats 4000000
namespace Px
open PySem L2

/-! ### forgetting what is no longer needed -/
def flat : HO → Prop
  | .dT _ => False
  | .frz _ u => flat u
  | _ => True
class Nod (H : Hp) : Prop where
  nod : ∀ a o, H a = some o → flat o
theorem nod_upd {H : Hp} {p : Addr} {o : HO} (n : Nod H) (f : flat o) : Nod (upd H p o) := ⟨fun a u e => by
  by_cases h : a = p
  · subst h
    rw [upd_same] at e
    cases e
    exact f
  · rw [upd_ne h] at e
    exact n.nod a u e⟩
instance nod_lst {H : Hp} {p : Addr} {xs : List V} [n : Nod H] : Nod (upd H p (.lst xs)) := nod_upd n trivial
instance nod_tup {H : Hp} {p : Addr} {xs : List V} [n : Nod H] : Nod (upd H p (.tup xs)) := nod_upd n trivial
instance nod_dK {H : Hp} {p : Addr} {xs : List (Key × V)} [n : Nod H] : Nod (upd H p (.dK xs)) := nod_upd n trivial
instance nod_ins {H : Hp} {p C dx : Addr} {fs : List (Str × V)} [n : Nod H] : Nod (upd H p (.ins C dx fs)) := nod_upd n trivial
instance nod_own {H : Hp} {p x : Addr} [n : Nod H] : Nod (upd H p (.own x)) := nod_upd n trivial
theorem nod_only {H : Hp} (h : Only H) : Nod H := ⟨fun a o e => by
  rcases h a with z | ⟨ob, xs, z⟩
  · rw [z] at e; cases e
  · rw [z] at e; cases e; trivial⟩

/-- all that was tracked is as it was -/
def Ex (H H' : Hp) : Prop := ∀ a o, H a = some o → H' a = some o
theorem ex_refl {H : Hp} : Ex H H := fun _ _ h => h
theorem ex_trans {H H1 H2 : Hp} (a : Ex H H1) (b : Ex H1 H2) : Ex H H2 := fun x o h => b x o (a x o h)
theorem ex_upd {H H' : Hp} {p : Addr} {o : HO} (h : H p = none) (e : Ex H H') : Ex H (upd H' p o) := fun a u ha => by
  rw [upd_ne (ne_of_none ha h)]
  exact e a u ha
theorem ex_new {H : Hp} {p : Addr} {o : HO} (h : H p = none) : Ex H (upd H p o) := ex_upd h ex_refl
theorem ex_none {H H' : Hp} {p : Addr} (e : Ex H H') (h : H' p = none) : H p = none := by
  cases q : H p with
  | none => rfl
  | some o => rw [e p o q] at h; cases h
theorem none_upd {H : Hp} {p q : Addr} {o : HO} (h : upd H q o p = none) : H p = none ∧ p ≠ q := by
  by_cases e : p = q
  · subst e; rw [upd_same] at h; cases h
  · rw [upd_ne e] at h; exact ⟨h, e⟩
theorem ex_sq {K : PySem.W.Frag} {H H' : Hp} {a : Addr} {xs : List V} (e : Ex H H') (h : SqL K H a xs) : SqL K H' a xs := by
  rcases h with (h | ⟨o, h⟩) | h
  · exact .inl (.inl (e _ _ h))
  · exact .inl (.inr ⟨o, e _ _ h⟩)
  · exact .inr h
theorem ex_sqt {K : PySem.W.Frag} {H H' : Hp} {a : Addr} {xs : List V} (e : Ex H H') (h : SqT K H a xs) : SqT K H' a xs := by
  rcases h with (h | ⟨o, h⟩) | h
  · exact .inl (.inl (e _ _ h))
  · exact .inl (.inr ⟨o, e _ _ h⟩)
  · exact .inr h
theorem sq_new {K : PySem.W.Frag} {H : Hp} {a p : Addr} {xs : List V} {o : HO} (hp : H p = none) (h : SqL K H a xs) : SqL K (upd H p o) a xs := ex_sq (ex_new hp) h
theorem sq_ne {K : PySem.W.Frag} {H : Hp} {a p : Addr} {xs : List V} {o : HO} (hp : a ≠ p) (h : SqL K H a xs) : SqL K (upd H p o) a xs := by
  rcases h with (h | ⟨ob, h⟩) | h
  · exact .inl (.inl (by rw [upd_ne hp]; exact h))
  · exact .inl (.inr ⟨ob, by rw [upd_ne hp]; exact h⟩)
  · exact .inr h
theorem sq_at {K : PySem.W.Frag} {H : Hp} {a : Addr} {xs : List V} (h : H a = some (.lst xs)) : SqL K H a xs := .inl (.inl h)
theorem st_at {K : PySem.W.Frag} {H : Hp} {a : Addr} {xs : List V} (h : H a = some (.tup xs)) : SqT K H a xs := .inl (.inl h)
theorem sq_up {K : PySem.W.Frag} {H : Hp} {a : Addr} {xs : List V} : SqL K (upd H a (.lst xs)) a xs := sq_at upd_same

structure Fg (H H' H'' : Hp) : Prop where
  sub : ∀ a o, H'' a = some o → H' a = some o
  old : ∀ a o, H a = some o → H'' a = H' a
  own : ∀ a x, H a = some (.own x) → H' a = some (.own x)
  ins : ∀ a C dx fs, H'' a = some (.ins C dx fs) → ∃ fs', H a = some (.ins C dx fs')
  frz : ∀ a o u, H'' a = some (.frz o u) → H a = some (.frz o u)
  nod : ∀ a o, H'' a = some o → flat o
theorem ok_keep {P : Program} {w : World} {H H' H'' : Hp} {h h' : Heap} {a : Addr} {u : HO} (f : flat u) (x : ObjOk P w H h a u) (y : ObjOk P w H' h' a u) (k : ∀ b z, H b = some (.own z) → H'' b = some (.own z)) : ObjOk P w H'' h' a u := by
  induction u with
  | ins C dx fs =>
    obtain ⟨d, _⟩ := x
    obtain ⟨_, r⟩ := y
    exact ⟨k _ _ d, r⟩
  | dT kvs => exact f.elim
  | frz ob u ih =>
    obtain ⟨_, x2⟩ := x
    obtain ⟨y1, y2⟩ := y
    exact ⟨y1, ih f x2 y2⟩
  | lst xs => obtain ⟨z, its, m, r, e⟩ := y; exact ⟨z, its, m, r, e⟩
  | tup xs => obtain ⟨z, its, r, ob, e, c⟩ := y; exact ⟨z, its, r, ob, e, c⟩
  | dK kvs => obtain ⟨z, w1, vs, r, ob, es, ep, e, c⟩ := y; exact ⟨z, w1, vs, r, ob, es, ep, e, c⟩
  | set S m => obtain ⟨ob, es, ep, t, e, c⟩ := y; exact ⟨ob, es, ep, t, e, c⟩
  | own z => obtain ⟨ob, e⟩ := y; exact ⟨ob, e⟩
  | xd fs => obtain ⟨mA, ⟨od, es, ep, e, c⟩, r⟩ := y; exact ⟨mA, ⟨od, es, ep, e, c⟩, r⟩
  | met g z => have e : h'.get? a = some (PySem.W.methodObj (.ref g) (.ref z)) := y; show h'.get? a = some (PySem.W.methodObj (.ref g) (.ref z)); exact e
  | rng lo hi => obtain ⟨t, u, v, e⟩ := y; exact ⟨t, u, v, e⟩
  | tbl ps => have e : h'.get? a = some { cls := .none, data := .fields ps } := y; show h'.get? a = some { cls := .none, data := .fields ps }; exact e
  | ext p => obtain ⟨q, ⟨o, e⟩, st⟩ := y; exact ⟨q, ⟨o, e⟩, st⟩
theorem ok_plain {P : Program} {w : World} {H' H'' : Hp} {h' : Heap} {a : Addr} {u : HO} (f : flat u) (n1 : ∀ C dx fs, u ≠ .ins C dx fs) (n2 : ∀ ob v, u ≠ .frz ob v) (y : ObjOk P w H' h' a u) : ObjOk P w H'' h' a u := by
  cases u with
  | ins C dx fs => exact absurd rfl (n1 C dx fs)
  | dT kvs => exact f.elim
  | frz ob u => exact absurd rfl (n2 ob u)
  | lst xs => obtain ⟨z, its, m, r, e⟩ := y; exact ⟨z, its, m, r, e⟩
  | tup xs => obtain ⟨z, its, r, ob, e, c⟩ := y; exact ⟨z, its, r, ob, e, c⟩
  | dK kvs => obtain ⟨z, w1, vs, r, ob, es, ep, e, c⟩ := y; exact ⟨z, w1, vs, r, ob, es, ep, e, c⟩
  | set S m => obtain ⟨ob, es, ep, t, e, c⟩ := y; exact ⟨ob, es, ep, t, e, c⟩
  | own z => obtain ⟨ob, e⟩ := y; exact ⟨ob, e⟩
  | xd fs => obtain ⟨mA, ⟨od, es, ep, e, c⟩, r⟩ := y; exact ⟨mA, ⟨od, es, ep, e, c⟩, r⟩
  | met g z => have e : h'.get? a = some (PySem.W.methodObj (.ref g) (.ref z)) := y; show h'.get? a = some (PySem.W.methodObj (.ref g) (.ref z)); exact e
  | rng lo hi => obtain ⟨t, u, v, e⟩ := y; exact ⟨t, u, v, e⟩
  | tbl ps => have e : h'.get? a = some { cls := .none, data := .fields ps } := y; show h'.get? a = some { cls := .none, data := .fields ps }; exact e
  | ext p => obtain ⟨q, ⟨o, e⟩, st⟩ := y; exact ⟨q, ⟨o, e⟩, st⟩
theorem fg_ok {P : Program} {w : World} {H H' H'' : Hp} {h h' : Heap} (x : HOk P w H h) (y : HOk P w H' h') (f : Fg H H' H'') : HOk P w H'' h' := fun a o e => by
  have ko : ∀ b z, H b = some (.own z) → H'' b = some (.own z) := fun b z q => (f.old b _ q).trans (f.own b z q)
  have y1 := y a o (f.sub a o e)
  have fl := f.nod a o e
  by_cases hi : ∃ C dx fs, o = .ins C dx fs
  · obtain ⟨C, dx, fs, rfl⟩ := hi
    obtain ⟨fs', q⟩ := f.ins a C dx fs e
    obtain ⟨d, _⟩ := x a _ q
    obtain ⟨_, r⟩ := y1
    exact ⟨ko _ _ d, r⟩
  · by_cases hf : ∃ ob u, o = .frz ob u
    · obtain ⟨ob, u, rfl⟩ := hf
      exact ok_keep fl (x a _ (f.frz a ob u e)) y1 ko
    · exact ok_plain fl (fun C dx fs z => hi ⟨C, dx, fs, z⟩) (fun ob u z => hf ⟨ob, u, z⟩) y1
theorem fg_none {H H' H'' : Hp} (f : Fg H H' H'') {a : Addr} (h : H' a = none) : H'' a = none := by
  cases q : H'' a with
  | none => rfl
  | some o => rw [f.sub a o q] at h; cases h
theorem inv_fg {X : Cx} {pins pins' : List (Addr × Obj)} {σ σ' : L2.St} {H H' H'' : Hp} {s s' : Shared} (I : Inv X pins σ H s) (J : Inv X pins' σ' H' s') (f : Fg H H' H'') : Inv X pins' σ' H'' s' where
  ok := J.ok
  os := J.os
  bare := J.bare
  base := {
    keep := J.base.keep
    slot := J.base.slot
    free := fun b o q n hx => fg_none f (J.base.free b o q n hx)
    there := J.base.there
    tups := fun b xs q => (f.old b _ (I.base.tups b xs q)).trans (J.base.tups b xs q)
    frzs := fun b o u q => (f.old b _ (I.base.frzs b o u q)).trans (J.base.frzs b o u q)
    tbls := fun b ps q => by
      obtain ⟨m1, e1⟩ := I.base.tbls b ps q
      obtain ⟨m2, e2⟩ := J.base.tbls b ps q
      exact ⟨m2, (f.old b _ e1).trans e2⟩ }
  loc := J.loc
  cell := J.cell
  free := fg_none f J.free
  freeC := fun x c e => fg_none f (J.freeC x c e)
  pin := fun p hp => by
    obtain ⟨a, b, c, d, e⟩ := J.pin p hp
    exact ⟨a, fg_none f b, c, d, e⟩
  hok := fg_ok I.hok J.hok f
  len := J.len

theorem fg_same {H H' : Hp} [n : Nod H] (e : Ex H H') : Fg H H' H :=
  ⟨e, fun a o h => h.trans (e a o h).symm, fun a x h => e a _ h, fun a C dx fs h => ⟨fs, h⟩, fun a o u h => h, n.nod⟩
def fresh : HO → Prop
  | .lst _ => True
  | .tup _ => True
  | .dK _ => True
  | _ => False
theorem fresh_flat {o : HO} (h : fresh o) : flat o := by
  cases o with
  | dT kvs => exact (show False from h).elim
  | frz ob u => exact (show False from h).elim
  | lst xs => trivial
  | tup xs => trivial
  | dK kvs => trivial
  | set S n => trivial
  | own z => trivial
  | xd fs => trivial
  | met f z => trivial
  | rng lo hi => trivial
  | tbl ps => trivial
  | ext p => trivial
  | ins C dx fs => trivial
/-- what is kept: all of H but at S, and the new or changed ones L -/
theorem fg_gen {H H' H'' : Hp} [n : Nod H] (S : Addr → Prop) (k : ∀ a o, H a = some o → ¬ S a → H' a = some o ∧ H'' a = some o) (s : ∀ a, S a → ∃ o, fresh o ∧ H' a = some o ∧ H'' a = some o ∧ ∀ u, H a = some u → fresh u) (c : ∀ a, H a = none → ¬ S a → H'' a = none) : Fg H H' H'' where
  sub := fun a o e => by
    by_cases h : S a
    · obtain ⟨u, _, h1, h2, _⟩ := s a h
      rw [h2] at e; rw [h1]; exact e
    · cases q : H a with
      | none => rw [c a q h] at e; cases e
      | some u =>
        obtain ⟨h1, h2⟩ := k a u q h
        rw [h2] at e; rw [h1]; exact e
  old := fun a o e => by
    by_cases h : S a
    · obtain ⟨u, _, h1, h2, _⟩ := s a h
      rw [h1, h2]
    · obtain ⟨h1, h2⟩ := k a o e h
      rw [h1, h2]
  own := fun a x e => by
    by_cases h : S a
    · obtain ⟨u, _, h1, h2, h3⟩ := s a h
      exact (h3 _ e).elim
    · exact (k a _ e h).1
  ins := fun a C dx fs e => by
    by_cases h : S a
    · obtain ⟨u, f, h1, h2, h3⟩ := s a h
      rw [h2] at e; cases e; exact f.elim
    · cases q : H a with
      | none => rw [c a q h] at e; cases e
      | some u =>
        obtain ⟨h1, h2⟩ := k a u q h
        rw [h2] at e; cases e; exact ⟨_, rfl⟩
  frz := fun a o w e => by
    by_cases h : S a
    · obtain ⟨u, f, h1, h2, h3⟩ := s a h
      rw [h2] at e; cases e; exact f.elim
    · cases q : H a with
      | none => rw [c a q h] at e; cases e
      | some u =>
        obtain ⟨h1, h2⟩ := k a u q h
        rw [h2] at e; cases e; rfl
  nod := fun a o e => by
    by_cases h : S a
    · obtain ⟨u, f, h1, h2, h3⟩ := s a h
      rw [h2] at e; cases e; exact fresh_flat f
    · cases q : H a with
      | none => rw [c a q h] at e; cases e
      | some u =>
        obtain ⟨h1, h2⟩ := k a u q h
        rw [h2] at e; cases e; exact n.nod a _ q
/-- one new or changed thing -/
theorem fg_one {H H' : Hp} {p : Addr} {o : HO} [n : Nod H] (f : fresh o) (hp : ∀ u, H p = some u → fresh u) (e : ∀ a u, a ≠ p → H a = some u → H' a = some u) (h : H' p = some o) : Fg H H' (upd H p o) :=
  fg_gen (fun a => a = p) (fun a u q ne => ⟨e a u ne q, by rw [upd_ne ne]; exact q⟩) (fun a q => by subst q; exact ⟨o, f, h, upd_same, hp⟩) (fun a q ne => by rw [upd_ne ne]; exact q)
theorem fg_new {H H' : Hp} {p : Addr} {o : HO} [n : Nod H] (f : fresh o) (hp : H p = none) (e : Ex H H') (h : H' p = some o) : Fg H H' (upd H p o) :=
  fg_one f (fun u q => by rw [hp] at q; cases q) (fun a u _ q => e a u q) h
theorem fg_mut {H H' : Hp} {p : Addr} {xs : List V} {o : HO} [n : Nod H] (f : fresh o) (hp : H p = some (.lst xs)) (e : ∀ a u, a ≠ p → H a = some u → H' a = some u) (h : H' p = some o) : Fg H H' (upd H p o) :=
  fg_one f (fun u q => by rw [hp] at q; cases q; trivial) e h
theorem fg_mut_new {H H' : Hp} {l p : Addr} {xs : List V} {o u : HO} [n : Nod H] (f : fresh o) (g : fresh u) (hl : H l = some (.lst xs)) (hp : H p = none) (e : ∀ a u, a ≠ l → H a = some u → H' a = some u) (h : H' l = some o) (h2 : H' p = some u) : Fg H H' (upd (upd H l o) p u) := by
  have ne : l ≠ p := ne_of_none hl hp
  refine fg_gen (fun a => a = l ∨ a = p) (fun a w q z => ?_) (fun a z => ?_) (fun a q z => ?_)
  · have z1 : a ≠ l := fun y => z (.inl y)
    have z2 : a ≠ p := fun y => z (.inr y)
    exact ⟨e a w z1 q, by rw [upd_ne z2, upd_ne z1]; exact q⟩
  · rcases z with rfl | rfl
    · exact ⟨o, f, h, by rw [upd_ne ne, upd_same], fun w q => by rw [hl] at q; cases q; trivial⟩
    · exact ⟨u, g, h2, upd_same, fun w q => by rw [hp] at q; cases q⟩
  · have z1 : a ≠ l := fun y => z (.inl y)
    have z2 : a ≠ p := fun y => z (.inr y)
    rw [upd_ne z2, upd_ne z1]; exact q

section
variable {X : Cx} {e : Expr} {es : List Expr} {st : Stmt} {sts : List Stmt}
def tFg (t : TE) : TE := fun σ H Q => t σ H fun v H' => ∃ H'', Fg H H' H'' ∧ Q v H''
def bFg (t : TT) : TT := fun σ H Q => t σ H fun v H' => ∃ H'', Fg H H' H'' ∧ Q v H''
def sFg (t : TS) : TS := fun D σ H => t { nx := fun σ' H' => ∃ H'', Fg H H' H'' ∧ D.nx σ' H'', rt := fun v H' => ∃ H'', Fg H H' H'' ∧ D.rt v H'', bk := fun σ' H' => ∃ H'', Fg H H' H'' ∧ D.bk σ' H'', ct := fun σ' H' => ∃ H'', Fg H H' H'' ∧ D.ct σ' H'' } σ H
theorem pe_fg {t : TE} (h : PE X e t) : PE X e (tFg t) := ⟨fun pins s σ H Q I q => by
  refine wpAny_mono (h.run pins s σ H _ I q) (fun u s' z => ?_) fun _ _ z => z
  obtain ⟨v, H', J, r, H'', f, qq⟩ := z
  exact ⟨v, H'', inv_fg I J f, r, qq⟩⟩
theorem pt_fg {t : TT} (h : PT X e t) : PT X e (bFg t) := ⟨fun pins s σ H Q I q => by
  refine wpAny_mono (h.run pins s σ H _ I q) (fun u s' z => ?_) fun _ _ z => z
  obtain ⟨H', J, H'', f, qq⟩ := z
  exact ⟨H'', inv_fg I J f, qq⟩⟩
theorem sp_fg {pins : List (Addr × Obj)} {σ : L2.St} {H : Hp} {s s' : Shared} {D : Ends} {f : Flow} (I : Inv X pins σ H s)
    (z : SP X pins { nx := fun σ' H' => ∃ H'', Fg H H' H'' ∧ D.nx σ' H'', rt := fun v H' => ∃ H'', Fg H H' H'' ∧ D.rt v H'', bk := fun σ' H' => ∃ H'', Fg H H' H'' ∧ D.bk σ' H'', ct := fun σ' H' => ∃ H'', Fg H H' H'' ∧ D.ct σ' H'' } f s') : SP X pins D f s' := by
  cases f with
  | next => obtain ⟨σ', H', J, H'', g, q⟩ := z; exact ⟨σ', H'', inv_fg I J g, q⟩
  | ret v => obtain ⟨x, σ', H', J, r, H'', g, q⟩ := z; exact ⟨x, σ', H'', inv_fg I J g, r, q⟩
  | brk => obtain ⟨σ', H', J, H'', g, q⟩ := z; exact ⟨σ', H'', inv_fg I J g, q⟩
  | cont => obtain ⟨σ', H', J, H'', g, q⟩ := z; exact ⟨σ', H'', inv_fg I J g, q⟩
theorem ps_fg {t : TS} (h : PS X st t) : PS X st (sFg t) := ⟨fun pins s σ H D I q => wpAny_mono (h.run pins s σ H _ I q) (fun _ _ z => sp_fg I z) fun _ _ z => z⟩
theorem pss_fg {t : TS} (h : PSs X sts t) : PSs X sts (sFg t) := ⟨fun pins s σ H D I q => wpAny_mono (h.run pins s σ H _ I q) (fun _ _ z => sp_fg I z) fun _ _ z => z⟩
end
end Px
set_option Elab.async false
set_option linter.all false
set_option maxRecDepth 100000
set_option maxHeartbeats 4000000
namespace Px
open PySem L2

/-! ### the operators by short names -/
abbrev oAdd : R2 := rI0 fun i j => .int (i + j)
abbrev oSub : R2 := rI0 fun i j => .int (i - j)
abbrev oMul : R2 := rI CMulW fun i j => .int (i * j)
abbrev oDiv : R2 := rI CDivW fun i j => .int (i / j)
abbrev oMod : R2 := rI (fun _ j => 0 < j) fun i j => .int (i % j)
abbrev oPow : R2 := rI CPow fun i j => .int (i ^ j.toNat)
abbrev oLt : R2 := rI0 fun i j => .bl (decide (i < j))
abbrev oLe : R2 := rI0 fun i j => .bl (decide (i ≤ j))
abbrev oGt : R2 := rI0 fun i j => .bl (decide (j < i))
abbrev oGe : R2 := rI0 fun i j => .bl (decide (j ≤ i))
abbrev oIsN : R2 := fun x y H Q => y = .non ∧ Q (.bl (decide (x = .non))) H
abbrev oNotN : R2 := fun x y H Q => y = .non ∧ Q (.bl (!decide (x = .non))) H
abbrev oCatS : R2 := fun x y H Q => ∃ i j, x = .str i ∧ y = .str j ∧ i.length + j.length ≤ sizeLine ∧ Q (.str (i ++ j)) H
abbrev uNeg : V → Hp → VK → Prop := rU fun i => .int (-i)
abbrev cLen (K : PySem.W.Frag) : List V → Hp → VK → Prop := fun xs H Q => ∃ p ys, xs = [.ref p] ∧ (SqL K H p ys ∨ SqT K H p ys) ∧ Q (.int ys.length) H
abbrev cLenS : List V → Hp → VK → Prop := fun xs H Q => ∃ z, xs = [.str z] ∧ z.length ≤ sizeLine ∧ Q (.int z.length) H
abbrev cInt : List V → Hp → VK → Prop := fun xs H Q => (∃ i, xs = [.int i] ∧ Q (.int i) H) ∨ ∃ k, xs = [.bl k] ∧ Q (.int (if k then 1 else 0)) H
abbrev cIntS : List V → Hp → VK → Prop := fun xs H Q => ∃ a n, xs = [.str a] ∧ PySem.intText? a = some n ∧ a.length ≤ 640 ∧ Q (.int n) H
abbrev cStr : List V → Hp → VK → Prop := fun xs H Q => ∃ i, xs = [.int i] ∧ i.natAbs.log2 < 1920 ∧ Q (.str (toString i)) H
abbrev cAbs : List V → Hp → VK → Prop := fun xs H Q => ∃ i, xs = [.int i] ∧ Q (.int (if i < 0 then -i else i)) H
abbrev cMax : List V → Hp → VK → Prop := fun xs H Q => ∃ i j, xs = [.int i, .int j] ∧ Q (.int (if j > i then j else i)) H
abbrev cMin : List V → Hp → VK → Prop := fun xs H Q => ∃ i j, xs = [.int i, .int j] ∧ Q (.int (if j < i then j else i)) H
abbrev cList (K : PySem.W.Frag) : List V → Hp → VK → Prop := fun xs H Q => ∃ p ys, xs = [.ref p] ∧ (SqL K H p ys ∨ SqT K H p ys) ∧ ∀ l, H l = none → Q (.ref l) (upd H l (.lst ys))
/-- x *= e, x //= e -/
def ipC (C : Int → Int → Prop) (f : Int → Int → Int) : TIp := fun x y H Q => ∃ i j, x = .int i ∧ y = .int j ∧ C i j ∧ Q (.int (f i j)) H
section
variable {X : Cx}
theorem ip_mul : PIp X .Mult (ipC CMulW fun i j => i * j) := by
  intro pins s σ H x y vx vy Q I rx ry h
  obtain ⟨i, j, rfl, rfl, c, q⟩ := h
  obtain ⟨t, rfl⟩ := rx
  obtain ⟨t', rfl⟩ := ry
  exact PyProof.Rows.imul_int ⟨.int _, H, I.tok _, ⟨_, rfl⟩, q⟩ c.ok
theorem ip_div : PIp X .FloorDiv (ipC CDivW fun i j => i / j) := by
  intro pins s σ H x y vx vy Q I rx ry h
  obtain ⟨i, j, rfl, rfl, c, q⟩ := h
  exact iop_fdivW pins s σ H _ _ vx vy Q I rx ry ⟨i, j, rfl, rfl, c, q⟩
end

/-! ### what evaluates to what, the heap as it was -/
def Ev (te : TE) (σ : L2.St) (H : Hp) (v : V) : Prop := ∀ Q : VK, Q v H → te σ H Q
def EvL (te : TE) (σ : L2.St) (H : Hp) (xs : List V) : Prop := ∀ Q : VK, (∀ p, H p = none → Q (.ref p) (upd H p (.lst xs))) → te σ H Q
def EvU (te : TE) (σ : L2.St) (H : Hp) (xs : List V) : Prop := ∀ Q : VK, (∀ p, H p = none → Q (.ref p) (upd H p (.tup xs))) → te σ H Q
def EvT (tt : TT) (σ : L2.St) (H : Hp) (b : Bool) : Prop := ∀ Q : Bool → Hp → Prop, Q b H → tt σ H Q
def EvA (ta : TA) (σ : L2.St) (H : Hp) (vs : List V) : Prop := ∀ Q : List V → Hp → Prop, Q vs H → ta σ H Q
def EvO (to : TO) (σ : L2.St) (H : Hp) (o : Option Int) : Prop := ∀ Q : Option Int → Hp → Prop, Q o H → to σ H Q
def RV (r : R2) (x y : V) (H : Hp) (z : V) : Prop := ∀ Q : VK, Q z H → r x y H Q
def RC (r : List V → Hp → VK → Prop) (vs : List V) (H : Hp) (z : V) : Prop := ∀ Q : VK, Q z H → r vs H Q
section
variable {K : PySem.W.Frag} {σ : L2.St} {H : Hp} {ta tb tc te : TE} {t u : TT} {x y z v : V} {r : R2} {i j : Int}
theorem ev_v (n : Nat) (h : σ[n]? = some (some v) := by rfl) : Ev (tVar n) σ H v := fun _ q => ⟨v, h, q⟩
theorem w_v (n : Nat) {Q : VK} (q : Q v H) (h : σ[n]? = some (some v) := by rfl) : tVar n σ H Q := ⟨v, h, q⟩
theorem ev_c : Ev (tC v) σ H v := fun _ q => q
theorem ev_op (ha : Ev ta σ H x) (hb : Ev tb σ H y) (hr : RV r x y H z) : Ev (tOp r ta tb) σ H z := fun Q q => ha _ (hb _ (hr Q q))
theorem ev_eq (h : Ev te σ H x) (e : x = y) : Ev te σ H y := e ▸ h
theorem rv_0 {g : Int → Int → V} : RV (rI0 g) (.int i) (.int j) H (g i j) := fun _ q => ⟨i, j, rfl, rfl, q⟩
theorem rv_1 {C : Int → Int → Prop} {g : Int → Int → V} (c : C i j) : RV (rI C g) (.int i) (.int j) H (g i j) := fun _ q => ⟨i, j, rfl, rfl, c, q⟩
theorem ev_add (ha : Ev ta σ H (.int i)) (hb : Ev tb σ H (.int j)) : Ev (tOp oAdd ta tb) σ H (.int (i + j)) := ev_op ha hb rv_0
theorem ev_sub (ha : Ev ta σ H (.int i)) (hb : Ev tb σ H (.int j)) : Ev (tOp oSub ta tb) σ H (.int (i - j)) := ev_op ha hb rv_0
theorem ev_mul (ha : Ev ta σ H (.int i)) (hb : Ev tb σ H (.int j)) (c : CMulW i j) : Ev (tOp oMul ta tb) σ H (.int (i * j)) := ev_op ha hb (rv_1 c)
theorem ev_div (ha : Ev ta σ H (.int i)) (hb : Ev tb σ H (.int j)) (c : CDivW i j) : Ev (tOp oDiv ta tb) σ H (.int (i / j)) := ev_op ha hb (rv_1 c)
theorem ev_mod (ha : Ev ta σ H (.int i)) (hb : Ev tb σ H (.int j)) (c : 0 < j) : Ev (tOp oMod ta tb) σ H (.int (i % j)) := ev_op ha hb (rv_1 c)
theorem ev_pow (ha : Ev ta σ H (.int i)) (hb : Ev tb σ H (.int j)) (c : CPow i j) : Ev (tOp oPow ta tb) σ H (.int (i ^ j.toNat)) := ev_op ha hb (rv_1 c)
theorem ev_lt (ha : Ev ta σ H (.int i)) (hb : Ev tb σ H (.int j)) : Ev (tOp oLt ta tb) σ H (.bl (decide (i < j))) := ev_op ha hb rv_0
theorem ev_le (ha : Ev ta σ H (.int i)) (hb : Ev tb σ H (.int j)) : Ev (tOp oLe ta tb) σ H (.bl (decide (i ≤ j))) := ev_op ha hb rv_0
theorem ev_gt (ha : Ev ta σ H (.int i)) (hb : Ev tb σ H (.int j)) : Ev (tOp oGt ta tb) σ H (.bl (decide (j < i))) := ev_op ha hb rv_0
theorem ev_ge (ha : Ev ta σ H (.int i)) (hb : Ev tb σ H (.int j)) : Ev (tOp oGe ta tb) σ H (.bl (decide (j ≤ i))) := ev_op ha hb rv_0
theorem ev_eqs (ha : Ev ta σ H x) (hb : Ev tb σ H y) (s : scal x y = true) : Ev (tOp rEq ta tb) σ H (.bl (decide (x = y))) := ev_op ha hb fun _ q => ⟨s, q⟩
theorem ev_nes (ha : Ev ta σ H x) (hb : Ev tb σ H y) (s : scal x y = true) : Ev (tOp rNe ta tb) σ H (.bl (!decide (x = y))) := ev_op ha hb fun _ q => ⟨s, q⟩
theorem dec_int : decide (V.int i = V.int j) = decide (i = j) := by
  by_cases h : i = j
  · subst h; simp
  · rw [decide_eq_false h, decide_eq_false (fun e => h (V.int.inj e))]
theorem ev_eqi (ha : Ev ta σ H (.int i)) (hb : Ev tb σ H (.int j)) : Ev (tOp rEq ta tb) σ H (.bl (decide (i = j))) := fun Q q => ev_eqs ha hb rfl Q (by rw [dec_int]; exact q)
theorem ev_nei (ha : Ev ta σ H (.int i)) (hb : Ev tb σ H (.int j)) : Ev (tOp rNe ta tb) σ H (.bl (!decide (i = j))) := fun Q q => ev_nes ha hb rfl Q (by rw [dec_int]; exact q)
theorem ev_isN (ha : Ev ta σ H x) : Ev (tOp oIsN ta (tC .non)) σ H (.bl (decide (x = .non))) := ev_op ha ev_c fun _ q => ⟨rfl, q⟩
theorem ev_notN (ha : Ev ta σ H x) : Ev (tOp oNotN ta (tC .non)) σ H (.bl (!decide (x = .non))) := ev_op ha ev_c fun _ q => ⟨rfl, q⟩
theorem ev_isB {a b : Bool} (ha : Ev ta σ H (.bl a)) (hb : Ev tb σ H (.bl b)) : Ev (tOp rIsB ta tb) σ H (.bl (decide (a = b))) := ev_op ha hb fun _ q => ⟨a, b, rfl, rfl, q⟩
theorem ev_notB {a b : Bool} (ha : Ev ta σ H (.bl a)) (hb : Ev tb σ H (.bl b)) : Ev (tOp rNotB ta tb) σ H (.bl (!decide (a = b))) := ev_op ha hb fun _ q => ⟨a, b, rfl, rfl, q⟩
theorem ev_neg (ha : Ev ta σ H (.int i)) : Ev (tUn uNeg ta) σ H (.int (-i)) := fun _ q => ha _ ⟨i, rfl, q⟩
theorem ev_chain {a b : Bool} {r r' : R2} (ha : Ev ta σ H x) (hb : Ev tb σ H y) (hr : RV r x y H (.bl a)) (hc : a = true → Ev tc σ H z) (hr' : a = true → RV r' y z H (.bl b)) : Ev (tChain r r' ta tb tc) σ H (.bl (a && b)) := fun Q q =>
  ha _ (hb _ (hr _ ⟨a, rfl, by
    cases a with
    | true => exact iteT (hc rfl _ (hr' rfl Q q))
    | false => exact iteF q⟩))
theorem ev_ixL {p : Addr} {xs : List V} (ha : Ev ta σ H (.ref p)) (hb : Ev tb σ H (.int i)) (h : SqL K H p xs) (e : atI xs i = some v) : Ev (tOp (rIxL K) ta tb) σ H v := ev_op ha hb fun _ q => ⟨p, xs, i, v, rfl, rfl, h, e, q⟩
theorem ev_ixT {p : Addr} {xs : List V} (ha : Ev ta σ H (.ref p)) (hb : Ev tb σ H (.int i)) (h : SqT K H p xs) (e : atI xs i = some v) : Ev (tOp (rIxT K) ta tb) σ H v := ev_op ha hb fun _ q => ⟨p, xs, i, v, rfl, rfl, h, e, q⟩
theorem ev_cb {r : List V → Hp → VK → Prop} {ta : TA} {vs : List V} (h : EvA ta σ H vs) (hr : RC r vs H z) : Ev (tCB r ta) σ H z := fun Q q => h _ (hr Q q)
theorem ea_nil : EvA tNil σ H [] := fun _ q => q
theorem ea_cons {tr : TA} {vs : List V} (h : Ev ta σ H x) (hr : EvA tr σ H vs) : EvA (tCons ta tr) σ H (x :: vs) := fun _ q => h _ (hr _ q)
theorem ea_1 (h : Ev ta σ H x) : EvA (tCons ta tNil) σ H [x] := ea_cons h ea_nil
theorem ea_2 (h : Ev ta σ H x) (g : Ev tb σ H y) : EvA (tCons ta (tCons tb tNil)) σ H [x, y] := ea_cons h (ea_1 g)
theorem ea_3 (h : Ev ta σ H x) (g : Ev tb σ H y) (f : Ev tc σ H z) : EvA (tCons ta (tCons tb (tCons tc tNil))) σ H [x, y, z] := ea_cons h (ea_2 g f)
theorem ev_len {p : Addr} {xs : List V} (ha : Ev ta σ H (.ref p)) (h : SqL K H p xs) : Ev (tCB (cLen K) (tCons ta tNil)) σ H (.int (xs.length : Int)) := ev_cb (ea_1 ha) fun _ q => ⟨p, xs, rfl, .inl h, q⟩
theorem ev_lenT {p : Addr} {xs : List V} (ha : Ev ta σ H (.ref p)) (h : SqT K H p xs) : Ev (tCB (cLen K) (tCons ta tNil)) σ H (.int (xs.length : Int)) := ev_cb (ea_1 ha) fun _ q => ⟨p, xs, rfl, .inr h, q⟩
theorem ev_lenS {s : Str} (ha : Ev ta σ H (.str s)) (h : s.length ≤ sizeLine) : Ev (tCB cLenS (tCons ta tNil)) σ H (.int (s.length : Int)) := ev_cb (ea_1 ha) fun _ q => ⟨s, rfl, h, q⟩
theorem ev_intB {b : Bool} (ha : Ev ta σ H (.bl b)) : Ev (tCB cInt (tCons ta tNil)) σ H (.int (if b then 1 else 0)) := ev_cb (ea_1 ha) fun _ q => .inr ⟨b, rfl, q⟩
theorem ev_intI (ha : Ev ta σ H (.int i)) : Ev (tCB cInt (tCons ta tNil)) σ H (.int i) := ev_cb (ea_1 ha) fun _ q => .inl ⟨i, rfl, q⟩
theorem ev_abs (ha : Ev ta σ H (.int i)) : Ev (tCB cAbs (tCons ta tNil)) σ H (.int (if i < 0 then -i else i)) := ev_cb (ea_1 ha) fun _ q => ⟨i, rfl, q⟩
theorem ev_max (ha : Ev ta σ H (.int i)) (hb : Ev tb σ H (.int j)) : Ev (tCB cMax (tCons ta (tCons tb tNil))) σ H (.int (if j > i then j else i)) := ev_cb (ea_2 ha hb) fun _ q => ⟨i, j, rfl, q⟩
theorem ev_min (ha : Ev ta σ H (.int i)) (hb : Ev tb σ H (.int j)) : Ev (tCB cMin (tCons ta (tCons tb tNil))) σ H (.int (if j < i then j else i)) := ev_cb (ea_2 ha hb) fun _ q => ⟨i, j, rfl, q⟩
theorem ev_sum {p : Addr} {ns : List Int} (ha : Ev ta σ H (.ref p)) (h : SqL K H p (ns.map V.int)) : Ev (tCB (rSum K) (tCons ta tNil)) σ H (.int ns.sum) := ev_cb (ea_1 ha) fun _ q => ⟨p, ns, rfl, h, q⟩
theorem ev_isi {t0 u0 : Value} {b : Bool} {c : V} (ha : Ev ta σ H x) (hb : Ev tb σ H c) (k : ClsV c u0) (ty : TyX K H x t0) (e : PySem.W.kitOne K t0 u0 = some b) : Ev (tCB (rIsi K) (tCons ta (tCons tb tNil))) σ H (.bl b) := ev_cb (ea_2 ha hb) fun _ q => ⟨x, c, t0, u0, b, rfl, k, ty, e, q⟩
theorem ev_if {b : Bool} (h : EvT t σ H b) (h1 : b = true → Ev ta σ H v) (h2 : b = false → Ev tb σ H v) : Ev (tIf t ta tb) σ H v := fun Q q => h _ (by
  cases b with
  | true => exact iteT (h1 rfl Q q)
  | false => exact iteF (h2 rfl Q q))
theorem ev_ite {b : Bool} {v w : V} (h : EvT t σ H b) (h1 : Ev ta σ H v) (h2 : Ev tb σ H w) : Ev (tIf t ta tb) σ H (if b then v else w) := fun Q q => h _ (by
  cases b with
  | true => exact iteT (h1 Q q)
  | false => exact iteF (h2 Q q))
theorem ev_and {a b : Bool} (h1 : Ev ta σ H (.bl a)) (h2 : a = true → Ev tb σ H (.bl b)) : Ev (tAndV ta tb) σ H (.bl (a && b)) := fun Q q => h1 _ ⟨a, rfl, by
  cases a with
  | true => exact iteT (h2 rfl Q q)
  | false => exact iteF q⟩
theorem ev_or {a b : Bool} (h1 : Ev ta σ H (.bl a)) (h2 : a = false → Ev tb σ H (.bl b)) : Ev (tOrV ta tb) σ H (.bl (a || b)) := fun Q q => h1 _ ⟨a, rfl, by
  cases a with
  | true => exact iteT q
  | false => exact iteF (h2 rfl Q q)⟩
theorem ev_not {a : Bool} (h1 : Ev ta σ H (.bl a)) : Ev (tNotV ta) σ H (.bl (!a)) := fun _ q => h1 _ ⟨a, rfl, q⟩
theorem et_t {b : Bool} (h : Ev te σ H (.bl b)) : EvT (tTest te) σ H b := fun _ q => h _ ⟨b, rfl, q⟩
theorem et_b {b : Bool} (h : Ev te σ H (.bl b)) : EvT (tB te) σ H b := fun _ q => h _ ⟨b, rfl, q⟩
theorem et_and {a b : Bool} (h1 : EvT t σ H a) (h2 : a = true → EvT u σ H b) : EvT (tAnd t u) σ H (a && b) := fun Q q => h1 _ (by
  cases a with
  | true => exact iteT (h2 rfl Q q)
  | false => exact iteF q)
theorem et_or {a b : Bool} (h1 : EvT t σ H a) (h2 : a = false → EvT u σ H b) : EvT (tOr t u) σ H (a || b) := fun Q q => h1 _ (by
  cases a with
  | true => exact iteT q
  | false => exact iteF (h2 rfl Q q))
theorem et_not {a : Bool} (h1 : EvT t σ H a) : EvT (tNot t) σ H (!a) := fun _ q => h1 _ q
theorem et_eq {a b : Bool} (h : EvT t σ H a) (e : a = b) : EvT t σ H b := e ▸ h
theorem et_yes : EvT tYes σ H true := fun _ q => q
theorem eo_no : EvO tNoPart σ H none := fun _ q => q
theorem eo_is (h : Ev te σ H (.int i)) : EvO (tPart te) σ H (some i) := fun _ q => h _ ⟨i, rfl, q⟩
theorem el_nil : EvL (tLst tNil) σ H [] := fun _ q => ⟨Nat.zero_le _, q⟩
theorem el_lst {ta : TA} {vs : List V} (h : EvA ta σ H vs) (hl : vs.length ≤ 1000) : EvL (tLst ta) σ H vs := fun _ q => h _ ⟨Nat.le_trans hl (by decide), q⟩
theorem eu_tup {ta : TA} {vs : List V} (h : EvA ta σ H vs) (hl : vs.length ≤ 1000) : EvU (tTup ta) σ H vs := fun _ q => h _ ⟨Nat.le_trans hl (by decide), q⟩
theorem el_sl {tl th : TO} {a : Addr} {xs : List V} {lo hi : Option Int} (h : Ev te σ H (.ref a)) (h1 : EvO tl σ H lo) (h2 : EvO th σ H hi) (hs : SqL K H a xs) : EvL (tSl (rSlL K) te tl th) σ H (cutV xs lo hi) := fun _ q => h _ (h1 _ (h2 _ ⟨a, xs, rfl, hs, q⟩))
theorem el_list {a : Addr} {xs : List V} (h : Ev te σ H (.ref a)) (hs : SqL K H a xs) : EvL (tCB (cList K) (tCons te tNil)) σ H xs := fun _ q => h _ ⟨a, xs, rfl, .inl hs, q⟩
theorem el_rev {a : Addr} {xs : List V} (h : Ev te σ H (.ref a)) (hs : SqL K H a xs) : EvL (tRevL K te) σ H xs.reverse := fun _ q => h _ ⟨a, xs, rfl, hs, q⟩
theorem el_cat {a b : Addr} {xs ys : List V} (h : Ev ta σ H (.ref a)) (g : Ev tb σ H (.ref b)) (ha : H a = some (.lst xs)) (hb : H b = some (.lst ys)) (hl : xs.length + ys.length ≤ sizeLine) : EvL (tOp rCat ta tb) σ H (xs ++ ys) := fun _ q => h _ (g _ ⟨a, b, xs, ys, rfl, rfl, ha, hb, hl, q⟩)

/-! ### forgetting -/
theorem ev_fg [Nod H] (h : ∀ Q : VK, (∀ H', Ex H H' → Q v H') → te σ H Q) : Ev (tFg te) σ H v := fun Q q => h _ fun H' e => ⟨H, fg_same e, q⟩
theorem el_fg [Nod H] {xs : List V} (h : ∀ Q : VK, (∀ p H', H p = none → Ex H H' → H' p = some (.lst xs) → Q (.ref p) H') → te σ H Q) : EvL (tFg te) σ H xs := fun Q q => h _ fun p H' hp e hx => ⟨upd H p (.lst xs), fg_new trivial hp e hx, q p hp⟩
theorem et_fg [Nod H] {b : Bool} (h : ∀ Q : Bool → Hp → Prop, (∀ H', Ex H H' → Q b H') → t σ H Q) : EvT (bFg t) σ H b := fun Q q => h _ fun H' e => ⟨H, fg_same e, q⟩
/-- what is already exact stays so -/
theorem ev_fg0 [Nod H] (h : Ev te σ H v) : Ev (tFg te) σ H v := ev_fg fun Q q => h Q (q H ex_refl)
/-- an item of a list made on the way -/
theorem ev_pick [Nod H] {xs : List V} (h : EvL ta σ H xs) (hb : ∀ p, H p = none → Ev tb σ (upd H p (.lst xs)) (.int i)) (e : atI xs i = some v) : Ev (tFg (tOp (rIxL K) ta tb)) σ H v :=
  ev_fg fun Q q => h _ fun p hp => hb p hp _ ⟨p, xs, i, v, rfl, rfl, sq_up, e, q _ (ex_new hp)⟩
end
end Px
set_option Elab.async false
set_option linter.all false
set_option maxRecDepth 100000
set_option maxHeartbeats 4000000
namespace Px
open PySem L2
section
variable {K : PySem.W.Frag} {σ : L2.St} {H : Hp} {ta tb tc te tl : TE} {t u : TT} {x y z v : V} {D : Ends} {s1 s2 s3 tu : TS} {n m : Nat} {i j : Int}
/-! ### statements -/
theorem s_set (h : Ev te σ H v) (k : D.nx (σ.set n (some v)) H) : tAsg te (gName n) D σ H := h _ k
theorem s_setL {xs : List V} (h : EvL te σ H xs) (k : ∀ p, H p = none → D.nx (σ.set n (some (.ref p))) (upd H p (.lst xs))) : tAsg te (gName n) D σ H := h _ k
theorem q_set (h : Ev te σ H v) (k : s2 D (σ.set n (some v)) H) : tSeq (tAsg te (gName n)) s2 D σ H := h _ k
theorem q_setL {xs : List V} (h : EvL te σ H xs) (k : ∀ p, H p = none → s2 D (σ.set n (some (.ref p))) (upd H p (.lst xs))) : tSeq (tAsg te (gName n)) s2 D σ H := h _ k
theorem q_setW (h : te σ H fun w H1 => s2 D (σ.set n (some w)) H1) : tSeq (tAsg te (gName n)) s2 D σ H := h
theorem s_setW (h : te σ H fun w H1 => D.nx (σ.set n (some w)) H1) : tAsg te (gName n) D σ H := h
theorem s_ret (h : Ev te σ H v) (k : D.rt v H) : tRet te D σ H := h _ k
theorem s_retL {xs : List V} (h : EvL te σ H xs) (k : ∀ p, H p = none → D.rt (.ref p) (upd H p (.lst xs))) : tRet te D σ H := h _ k
theorem s_if {b : Bool} (h : EvT t σ H b) (h1 : b = true → s1 D σ H) (h2 : b = false → s2 D σ H) : tIfS t s1 s2 D σ H := h _ (by
  cases b with
  | true => exact iteT (h1 rfl)
  | false => exact iteF (h2 rfl))
theorem q_if {b : Bool} (h : EvT t σ H b) (h1 : b = true → s1 { D with nx := s3 D } σ H) (h2 : b = false → s2 { D with nx := s3 D } σ H) : tSeq (tIfS t s1 s2) s3 D σ H := s_if (D := { D with nx := s3 D }) h h1 h2
theorem q_when {b : Bool} (h : EvT t σ H b) (h1 : b = true → s1 { D with nx := s3 D } σ H) (h2 : b = false → s3 D σ H) : tSeq (tIfS t s1 tNext) s3 D σ H := s_if (D := { D with nx := s3 D }) h h1 h2
theorem s_when {b : Bool} (h : EvT t σ H b) (h1 : b = true → s1 D σ H) (h2 : b = false → D.nx σ H) : tIfS t s1 tNext D σ H := s_if h h1 h2
theorem s_drop (h : Ev te σ H v) (k : D.nx σ H) : tDrop te D σ H := h _ k
theorem q_seq (h : s1 { D with nx := s2 D } σ H) : tSeq s1 s2 D σ H := h
theorem s_app {l : Addr} {xs : List V} (hl : H l = some (.lst xs)) (hz : xs.length < sizeLine) (ha : Ev ta σ H (.ref l)) (h : Ev te σ H v) (k : D.nx σ (upd H l (.lst (xs ++ [v])))) : tDrop (tBM K "list" rAppend ta (tCons te tNil)) D σ H :=
  ha _ ⟨.inl ⟨rfl, xs, sq_at hl⟩, h _ ⟨l, xs, v, rfl, rfl, hl, hz, k⟩⟩
theorem q_app {l : Addr} {xs : List V} (hl : H l = some (.lst xs)) (hz : xs.length < sizeLine) (ha : Ev ta σ H (.ref l)) (h : Ev te σ H v) (k : s2 D σ (upd H l (.lst (xs ++ [v])))) : tSeq (tDrop (tBM K "list" rAppend ta (tCons te tNil))) s2 D σ H := s_app (D := { D with nx := s2 D }) hl hz ha h k
theorem s_ext {l b : Addr} {xs ys : List V} (hl : H l = some (.lst xs)) (hb : H b = some (.lst ys)) (hz : xs.length + ys.length ≤ sizeLine) (ha : Ev ta σ H (.ref l)) (h : Ev te σ H (.ref b)) (k : D.nx σ (upd H l (.lst (xs ++ ys)))) : tDrop (tBM K "list" rExtend ta (tCons te tNil)) D σ H :=
  ha _ ⟨.inl ⟨rfl, xs, sq_at hl⟩, h _ ⟨l, b, xs, ys, rfl, rfl, hl, hb, hz, k⟩⟩
theorem ixn {k j : Nat} (h : j < k) : ixN k (j : Int) = some j := by
  unfold ixN
  rw [if_pos (by omega), if_pos (by omega)]
  simp
theorem ixn0 {k : Nat} (h : 0 < k) : ixN k 0 = some 0 := ixn (j := 0) h
theorem ixn1 {k : Nat} (h : 1 < k) : ixN k 1 = some 1 := ixn (j := 1) h
theorem s_sub {l : Addr} {xs : List V} {jj : Int} {j : Nat} (hl : H l = some (.lst xs)) (e : ixN xs.length jj = some j) (h : Ev te σ H v) (ho : Ev ta σ H (.ref l)) (hi : Ev tb σ H (.int jj)) (k : D.nx σ (upd H l (.lst (xs.set j v)))) : tAsg te (gSub ta tb rSetL) D σ H :=
  h _ (ho _ (hi _ ⟨l, xs, jj, j, rfl, rfl, hl, e, k⟩))
theorem q_sub {l : Addr} {xs : List V} {jj : Int} {j : Nat} (hl : H l = some (.lst xs)) (e : ixN xs.length jj = some j) (h : Ev te σ H v) (ho : Ev ta σ H (.ref l)) (hi : Ev tb σ H (.int jj)) (k : s2 D σ (upd H l (.lst (xs.set j v)))) : tSeq (tAsg te (gSub ta tb rSetL)) s2 D σ H := s_sub (D := { D with nx := s2 D }) hl e h ho hi k
theorem s_aug {f : Int → Int → Int} {a b : Int} (h : Ev te σ H (.int b)) (k : D.nx (σ.set n (some (.int (f a b)))) H) (hx : σ[n]? = some (some (.int a)) := by rfl) : tAug n te (ipI f) D σ H := ⟨.int a, hx, h _ ⟨a, b, rfl, rfl, k⟩⟩
theorem q_aug {f : Int → Int → Int} {a b : Int} (h : Ev te σ H (.int b)) (k : s2 D (σ.set n (some (.int (f a b)))) H) (hx : σ[n]? = some (some (.int a)) := by rfl) : tSeq (tAug n te (ipI f)) s2 D σ H := s_aug (D := { D with nx := s2 D }) h k hx
theorem s_augC {C : Int → Int → Prop} {f : Int → Int → Int} {a b : Int} (h : Ev te σ H (.int b)) (k : D.nx (σ.set n (some (.int (f a b)))) H) (c : C a b) (hx : σ[n]? = some (some (.int a)) := by rfl) : tAug n te (ipC C f) D σ H := ⟨.int a, hx, h _ ⟨a, b, rfl, rfl, c, k⟩⟩
theorem q_augC {C : Int → Int → Prop} {f : Int → Int → Int} {a b : Int} (h : Ev te σ H (.int b)) (k : s2 D (σ.set n (some (.int (f a b)))) H) (c : C a b) (hx : σ[n]? = some (some (.int a)) := by rfl) : tSeq (tAug n te (ipC C f)) s2 D σ H := s_augC (D := { D with nx := s2 D }) h k c hx
/-! ### loops -/
theorem s_while (W : Nat → L2.St → Hp → Prop) (m0 : Nat) (h0 : W m0 σ H)
    (hs : ∀ m σ' H', W m σ' H' → ∃ b, EvT t σ' H' b ∧ (b = true → tu { D with nx := fun σ2 H2 => ∃ m', m' < m ∧ W m' σ2 H2, ct := fun σ2 H2 => ∃ m', m' < m ∧ W m' σ2 H2, bk := D.nx } σ' H') ∧ (b = false → D.nx σ' H')) : tWhile t tu D σ H :=
  ⟨W, ⟨m0, h0⟩, fun m σ' H' hw => by
    obtain ⟨b, hb, h1, h2⟩ := hs m σ' H' hw
    refine hb _ ?_
    cases b with
    | true => exact iteT ⟨_, fun σ2 H2 q => q, h1 rfl⟩
    | false => exact iteF (h2 rfl)⟩
theorem q_while (W : Nat → L2.St → Hp → Prop) (m0 : Nat) (h0 : W m0 σ H)
    (hs : ∀ m σ' H', W m σ' H' → ∃ b, EvT t σ' H' b ∧ (b = true → tu { D with nx := fun σ2 H2 => ∃ m', m' < m ∧ W m' σ2 H2, ct := fun σ2 H2 => ∃ m', m' < m ∧ W m' σ2 H2, bk := s2 D } σ' H') ∧ (b = false → s2 D σ' H')) : tSeq (tWhile t tu) s2 D σ H :=
  s_while (D := { D with nx := s2 D }) W m0 h0 hs
theorem s_forR1 {ta : TA} {k : Int} (h : EvA ta σ H [.int k]) (hk : -(2 ^ 62) ≤ k ∧ k < 2 ^ 62) (Pv : Nat → L2.St → Hp → Prop) (h0 : Pv 0 σ H)
    (hs : ∀ (i : Nat) σ' H', (i : Int) < k → Pv i σ' H' → tu { D with nx := Pv (i + 1), ct := Pv (i + 1), bk := D.nx } (σ'.set n (some (.int (i : Int)))) H') (hd : ∀ σ' H', Pv k.toNat σ' H' → D.nx σ' H') : tFor (iRng1 ta) (gName n) tu D σ H :=
  h _ ⟨k, rfl, hk.1, hk.2, for_range (lo := 0) (n := k.toNat) Pv h0 (fun i σ' H' hi p => by
    show tu { D with nx := Pv (i + 1), ct := Pv (i + 1), bk := D.nx } (σ'.set n (some (.int ((0 : Int) + (i : Int))))) H'
    rw [Int.zero_add]
    exact hs i σ' H' (by omega) p) hd⟩
theorem q_forR1 {ta : TA} {k : Int} (h : EvA ta σ H [.int k]) (hk : -(2 ^ 62) ≤ k ∧ k < 2 ^ 62) (Pv : Nat → L2.St → Hp → Prop) (h0 : Pv 0 σ H)
    (hs : ∀ (i : Nat) σ' H', (i : Int) < k → Pv i σ' H' → tu { D with nx := Pv (i + 1), ct := Pv (i + 1), bk := s2 D } (σ'.set n (some (.int (i : Int)))) H') (hd : ∀ σ' H', Pv k.toNat σ' H' → s2 D σ' H') : tSeq (tFor (iRng1 ta) (gName n) tu) s2 D σ H :=
  s_forR1 (D := { D with nx := s2 D }) h hk Pv h0 hs hd
theorem s_forR2 {ta : TA} {lo k : Int} (h : EvA ta σ H [.int lo, .int k]) (hk : -(2 ^ 62) ≤ lo ∧ lo < 2 ^ 62 ∧ -(2 ^ 62) ≤ k ∧ k < 2 ^ 62) (Pv : Nat → L2.St → Hp → Prop) (h0 : Pv 0 σ H)
    (hs : ∀ (i : Nat) σ' H', lo + (i : Int) < k → Pv i σ' H' → tu { D with nx := Pv (i + 1), ct := Pv (i + 1), bk := D.nx } (σ'.set n (some (.int (lo + (i : Int))))) H') (hd : ∀ σ' H', Pv (k - lo).toNat σ' H' → D.nx σ' H') : tFor (iRng2 ta) (gName n) tu D σ H :=
  h _ ⟨lo, k, rfl, hk, for_range (lo := lo) (n := (k - lo).toNat) Pv h0 (fun i σ' H' hi p => hs i σ' H' (by omega) p) hd⟩
theorem q_forR2 {ta : TA} {lo k : Int} (h : EvA ta σ H [.int lo, .int k]) (hk : -(2 ^ 62) ≤ lo ∧ lo < 2 ^ 62 ∧ -(2 ^ 62) ≤ k ∧ k < 2 ^ 62) (Pv : Nat → L2.St → Hp → Prop) (h0 : Pv 0 σ H)
    (hs : ∀ (i : Nat) σ' H', lo + (i : Int) < k → Pv i σ' H' → tu { D with nx := Pv (i + 1), ct := Pv (i + 1), bk := s2 D } (σ'.set n (some (.int (lo + (i : Int))))) H') (hd : ∀ σ' H', Pv (k - lo).toNat σ' H' → s2 D σ' H') : tSeq (tFor (iRng2 ta) (gName n) tu) s2 D σ H :=
  s_forR2 (D := { D with nx := s2 D }) h hk Pv h0 hs hd
/-- over a list of ints -/
theorem s_forI {a : Addr} {ns : List Int} (h : Ev tl σ H (.ref a)) (hx : SqL K H a (ns.map V.int)) (Pv : Nat → L2.St → Hp → Prop) (h0 : Pv 0 σ H) (hl : ∀ i σ' H', i ≤ ns.length → Pv i σ' H' → SqL K H' a (ns.map V.int))
    (hs : ∀ i x σ' H', ns[i]? = some x → Pv i σ' H' → tu { D with nx := Pv (i + 1), ct := Pv (i + 1), bk := D.nx } (σ'.set n (some (.int x))) H') (hd : ∀ σ' H', Pv ns.length σ' H' → D.nx σ' H') : tFor (iList K tl) (gName n) tu D σ H :=
  h _ ⟨a, rfl, ⟨_, hx⟩, for_list (xs := ns.map V.int) Pv h0 (fun i σ' H' hi p => hl i σ' H' (by simpa using hi) p) (fun i x σ' H' hi p => by
    rw [List.getElem?_map] at hi
    cases e : ns[i]? with
    | none => rw [e] at hi; cases hi
    | some y => rw [e] at hi; cases hi; exact hs i y σ' H' e p) (fun σ' H' p => hd σ' H' (by simpa using p))⟩
theorem q_forI {a : Addr} {ns : List Int} (h : Ev tl σ H (.ref a)) (hx : SqL K H a (ns.map V.int)) (Pv : Nat → L2.St → Hp → Prop) (h0 : Pv 0 σ H) (hl : ∀ i σ' H', i ≤ ns.length → Pv i σ' H' → SqL K H' a (ns.map V.int))
    (hs : ∀ i x σ' H', ns[i]? = some x → Pv i σ' H' → tu { D with nx := Pv (i + 1), ct := Pv (i + 1), bk := s2 D } (σ'.set n (some (.int x))) H') (hd : ∀ σ' H', Pv ns.length σ' H' → s2 D σ' H') : tSeq (tFor (iList K tl) (gName n) tu) s2 D σ H :=
  s_forI (D := { D with nx := s2 D }) h hx Pv h0 hl hs hd
/-- over a new list of ints -/
theorem s_forN {ns : List Int} (h : EvL tl σ H (ns.map V.int)) (Pv : Addr → Nat → L2.St → Hp → Prop) (h0 : ∀ p, H p = none → Pv p 0 σ (upd H p (.lst (ns.map V.int)))) (hl : ∀ p i σ' H', H p = none → i ≤ ns.length → Pv p i σ' H' → SqL K H' p (ns.map V.int))
    (hs : ∀ p i x σ' H', H p = none → ns[i]? = some x → Pv p i σ' H' → tu { D with nx := Pv p (i + 1), ct := Pv p (i + 1), bk := D.nx } (σ'.set n (some (.int x))) H') (hd : ∀ p σ' H', H p = none → Pv p ns.length σ' H' → D.nx σ' H') : tFor (iList K tl) (gName n) tu D σ H :=
  h _ fun p hp => ⟨p, rfl, ⟨_, sq_up⟩, for_list (xs := ns.map V.int) (Pv p) (h0 p hp) (fun i σ' H' hi q => hl p i σ' H' hp (by simpa using hi) q) (fun i x σ' H' hi q => by
    rw [List.getElem?_map] at hi
    cases e : ns[i]? with
    | none => rw [e] at hi; cases hi
    | some y => rw [e] at hi; cases hi; exact hs p i y σ' H' hp e q) (fun σ' H' q => hd p σ' H' hp (by simpa using q))⟩
theorem q_forN {ns : List Int} (h : EvL tl σ H (ns.map V.int)) (Pv : Addr → Nat → L2.St → Hp → Prop) (h0 : ∀ p, H p = none → Pv p 0 σ (upd H p (.lst (ns.map V.int)))) (hl : ∀ p i σ' H', H p = none → i ≤ ns.length → Pv p i σ' H' → SqL K H' p (ns.map V.int))
    (hs : ∀ p i x σ' H', H p = none → ns[i]? = some x → Pv p i σ' H' → tu { D with nx := Pv p (i + 1), ct := Pv p (i + 1), bk := s2 D } (σ'.set n (some (.int x))) H') (hd : ∀ p σ' H', H p = none → Pv p ns.length σ' H' → s2 D σ' H') : tSeq (tFor (iList K tl) (gName n) tu) s2 D σ H :=
  s_forN (D := { D with nx := s2 D }) h Pv h0 hl hs hd
/-! ### comprehensions -/
/-- over a list: D the new one; the heap in the turns -/
theorem el_lc {a : Addr} {xs : List V} {vs : List Nat} (p : V → Bool) (f : V → V) (h : Ev tl σ H (.ref a)) (hx : SqL K H a xs) (hz : xs.length ≤ sizeLine) (hw : ∀ x, wipe ((wipe σ vs).set n (some x)) vs = wipe σ vs)
    (ht : ∀ x ∈ xs, ∀ D acc, H D = none → EvT t ((wipe σ vs).set n (some x)) (upd H D (.lst acc)) (p x)) (he : ∀ x ∈ xs, p x = true → ∀ D acc, H D = none → Ev te ((wipe σ vs).set n (some x)) (upd H D (.lst acc)) (f x)) :
    EvL (tLc (iList K tl) (gName n) t te vs) σ H ((xs.filter p).map f) := fun Q q => h _ ⟨a, rfl, ⟨xs, hx⟩, fun D hD =>
  lc_list (xs := xs) (fun i H' => H' = upd H D (.lst (((xs.take i).filter p).map f))) (by simp) (fun i H' _ e => by subst e; exact sq_new hD hx) (fun i x H' hi e => by
    subst e
    have hm : x ∈ xs := List.mem_of_getElem? hi
    have hlt : i < xs.length := (List.getElem?_eq_some_iff.mp hi).1
    have et : xs.take (i + 1) = xs.take i ++ [x] := by rw [List.take_add_one, hi]; rfl
    refine ⟨hw x, ht x hm D _ hD _ ?_⟩
    cases hp : p x with
    | true =>
      refine iteT (he x hm hp D _ hD _ ⟨_, upd_same, ?_, ?_⟩)
      · rw [List.length_map]
        refine Nat.lt_of_le_of_lt (List.length_filter_le _ _) ?_
        rw [List.length_take]
        omega
      · rw [upd_upd, et, List.filter_append, List.map_append, List.filter_cons, if_pos hp]; rfl
    | false =>
      refine iteF ?_
      rw [et, List.filter_append, List.map_append, List.filter_cons, if_neg (by rw [hp]; decide)]
      simp) (fun H' e => by subst e; rw [List.take_length]; exact q D hD)⟩
/-- over a new list -/
theorem el_lcN [Nod H] {xs : List V} {vs : List Nat} (p : V → Bool) (f : V → V) (h : EvL tl σ H xs) (hz : xs.length ≤ sizeLine) (hw : ∀ x, wipe ((wipe σ vs).set n (some x)) vs = wipe σ vs)
    (ht : ∀ x ∈ xs, ∀ q D acc, H q = none → H D = none → q ≠ D → EvT t ((wipe σ vs).set n (some x)) (upd (upd H q (.lst xs)) D (.lst acc)) (p x)) (he : ∀ x ∈ xs, p x = true → ∀ q D acc, H q = none → H D = none → q ≠ D → Ev te ((wipe σ vs).set n (some x)) (upd (upd H q (.lst xs)) D (.lst acc)) (f x)) :
    EvL (tFg (tLc (iList K tl) (gName n) t te vs)) σ H ((xs.filter p).map f) := el_fg fun Q q => by
  refine h _ fun r hr => ?_
  refine el_lc (K := K) (H := upd H r (.lst xs)) (tl := fun _ H Q => Q (.ref r) H) p f (fun _ z => z) sq_up hz hw (fun x hx D acc hD => ?_) (fun x hx hp D acc hD => ?_) _ fun D hD => ?_
  · obtain ⟨h1, h2⟩ := none_upd hD
    exact ht x hx r D acc hr h1 (Ne.symm h2)
  · obtain ⟨h1, h2⟩ := none_upd hD
    exact he x hx hp r D acc hr h1 (Ne.symm h2)
  · obtain ⟨h1, h2⟩ := none_upd hD
    exact q D _ h1 (ex_upd h1 (ex_new hr)) upd_same
/-- over range(k), range(lo, k) -/
theorem el_lcR1 {ta : TA} {k : Int} {vs : List Nat} (p : Int → Bool) (f : Int → V) (h : EvA ta σ H [.int k]) (hk : -(2 ^ 62) ≤ k ∧ k ≤ 16777216) (hw : ∀ x, wipe ((wipe σ vs).set n (some x)) vs = wipe σ vs)
    (ht : ∀ i : Int, 0 ≤ i → i < k → ∀ D acc, H D = none → EvT t ((wipe σ vs).set n (some (.int i))) (upd H D (.lst acc)) (p i)) (he : ∀ i : Int, 0 ≤ i → i < k → p i = true → ∀ D acc, H D = none → Ev te ((wipe σ vs).set n (some (.int i))) (upd H D (.lst acc)) (f i)) :
    EvL (tLc (iRng1 ta) (gName n) t te vs) σ H ((((List.range k.toNat).map Int.ofNat).filter p).map f) := fun Q q => h _ ⟨k, rfl, hk.1, by omega, fun D hD =>
  lc_range (lo := 0) (n := k.toNat) (fun i H' => H' = upd H D (.lst ((((List.range i).map Int.ofNat).filter p).map f))) (by simp) (fun i H' hi e => by
    subst e
    show wipe ((wipe σ vs).set n (some (.int (0 + (i : Int))))) vs = wipe σ vs ∧ t ((wipe σ vs).set n (some (.int (0 + (i : Int))))) _ _
    rw [Int.zero_add]
    refine ⟨hw _, ht i (by omega) (by omega) D _ hD _ ?_⟩
    rw [List.range_succ, List.map_append, List.filter_append, List.map_append]
    have hlen : ((((List.range i).map Int.ofNat).filter p).map f).length < sizeLine := by
      rw [List.length_map]
      refine Nat.lt_of_le_of_lt (List.length_filter_le _ _) ?_
      rw [List.length_map, List.length_range]
      have : sizeLine = 16777216 := by decide
      omega
    cases hp : p (i : Int) with
    | true =>
      refine iteT (he i (by omega) (by omega) hp D _ hD _ ⟨_, upd_same, hlen, ?_⟩)
      rw [upd_upd]
      congr 2
      simp [hp]
    | false =>
      refine iteF ?_
      congr 2
      simp [hp]) (fun H' e => by subst e; exact q D hD)⟩
end
end Px
set_option Elab.async false
set_option linter.all false
set_option maxRecDepth 100000
set_option maxHeartbeats 4000000
namespace Px
open PySem L2
/-- text * int -/
abbrev oRepS : R2 := fun x y H Q => ∃ z n, x = .str z ∧ y = .int n ∧ MulOk z n ∧ Q (.str (Txt.mul z n)) H
theorem op_repS {X : Cx} : OpR X (binaryOp .Mult) oRepS := by
  intro pins s σ H x y v u Q I rx ry h
  obtain ⟨z, n, rfl, rfl, ok, q⟩ := h
  obtain ⟨t, rfl⟩ := rx
  obtain ⟨t', rfl⟩ := ry
  exact SB.mul ok fun t1 k => ⟨.str _, H, I.tok _, ⟨_, rfl⟩, q⟩
/-- a def of the text, by its name: it keeps its promise -/
structure Fn (P : Program) (w : World) (K : PySem.W.Frag) (mg : Str → Option Value) (base : Heap) (x : Str) (k : Nat) (ps : List Str) (sp : Sp) : Prop where
  ex : ∃ (f : Addr) (fd : FuncData), FnOk P w K mg base CX0 k f fd ps sp ∧ mg x = some (.ref f) ∧ PySem.W.keepIn K (.ref f) = true ∧ Binds K fd ps []
theorem pe_fn {X : Cx} {k : Nat} {ps : List Str} {sp : Sp} {x : Str} {p pos : Pos} {e : Expr} {es : List Expr} {t : TA} (F : Fn X.prog X.w X.K X.mg X.base x k ps sp) (hr : Room k X.A) (ha : PA X (e :: es) t) (hg : Gl X x := by rfl)
    (hdb : (x == ("__debug__" : Str)) = false := by decide) (he : starEach (e :: es) X.env = (false, eval e X.env) :: starEach es X.env := by rfl) (hpl : (backTo pos (starEach es X.env)).any (·.1) = false := by rfl) :
    PE X (.Call (.Name x p) (e :: es) [] pos) (tCall sp [] E0 t) := by
  obtain ⟨f, fd, F1, g, kp, b⟩ := F.ex
  exact pe_call F1 hr hg g kp b .nil pass0 ha hdb he hpl
abbrev FnP (K : PySem.W.Frag) (x : Str) (st : Stmt) (f : Addr) (fd : FuncData) : Prop := FunD K x x (defArgs st) (defBody st) (defScope st) [] [] f fd
end Px
set_option Elab.async false
set_option linter.all false
set_option maxRecDepth 100000
set_option maxHeartbeats 4000000
namespace Px
open PySem L2
theorem cm {i j : Int} (h : -(2 ^ 200) < i ∧ i < 2 ^ 200 ∧ -(2 ^ 200) < j ∧ j < 2 ^ 200) : CMulW i j := by
  refine wide_mul (a := 200) (b := 200) ?_ ?_ (by decide) (by decide) (by decide)
  · have : i.natAbs < 2 ^ 200 := by omega
    exact this
  · have : j.natAbs < 2 ^ 200 := by omega
    exact this
theorem cd {i j : Int} (h : 0 < j ∧ j < 2 ^ 200) : CDivW i j := by
  refine wide_div (b := 200) h.1 ?_ (by decide) (by decide)
  have : j.natAbs < 2 ^ 200 := by omega
  exact this
theorem cp {i j : Int} (h : 0 ≤ j ∧ j ≤ 1000 ∧ -(2 ^ 60) < i ∧ i < 2 ^ 60) : CPow i j := by
  refine ⟨h.1, ?_, ?_⟩
  · omega
  · have : i.natAbs < 2 ^ 64 := by omega
    exact this
theorem fg_body {t : TS} {D : Ends} {σ : L2.St} {H : Hp} (h : t { nx := fun σ' H' => ∃ H'', Fg H H' H'' ∧ D.nx σ' H'', rt := fun v H' => ∃ H'', Fg H H' H'' ∧ D.rt v H'', bk := fun σ' H' => ∃ H'', Fg H H' H'' ∧ D.bk σ' H'', ct := fun σ' H' => ∃ H'', Fg H H' H'' ∧ D.ct σ' H'' } σ H) : sFg t D σ H := h
theorem upd_self {H : Hp} {a : Addr} {o : HO} (h : H a = some o) : upd H a o = H := by
  funext b
  unfold upd
  split
  · rename_i e; rw [e, h]
  · rfl
theorem upd_comm {H : Hp} {a b : Addr} {o u : HO} (h : a ≠ b) : upd (upd H a o) b u = upd (upd H b u) a o := by
  funext c
  unfold upd
  by_cases h1 : c = b
  · rw [if_pos h1, if_neg (by rw [h1]; exact Ne.symm h), if_pos h1]
  · rw [if_neg h1, if_neg h1]
theorem dp_ints {K : PySem.W.Frag} {H : Hp} : ∀ ns : List Int, DpAll K H (ns.map V.int) (ns.map PyData.int)
  | [] => .nil
  | n :: r => .cons (.int n) (dp_ints r)
theorem lay_ints : ∀ ns : List Int, PyData.canLayAll0 (ns.map PyData.int) = true
  | [] => by simp [PyData.canLayAll0]
  | n :: r => by simp [PyData.canLayAll0, PyData.canLay0, lay_ints r]
theorem dep_ints : ∀ ns : List Int, PyData.depthAll (ns.map PyData.int) = 0
  | [] => by simp [PyData.depthAll]
  | n :: r => by simp [PyData.depthAll, PyData.depth, dep_ints r]
theorem shaped_ints (ns : List Int) : SeqAt.shaped (.list (ns.map PyData.int)) = true := by
  unfold SeqAt.shaped
  rw [PyData.canLay0, lay_ints, PyData.depth, dep_ints]
  decide
theorem shaped_nil : SeqAt.shaped (.list []) = true := shaped_ints []
theorem eqv_ints : ∀ ns ms : List Int, PyData.eqvAll (ns.map PyData.int) (ms.map PyData.int) = decide (ns = ms)
  | [], [] => by simp [PyData.eqvAll]
  | [], m :: ms => by simp [PyData.eqvAll]
  | n :: ns, [] => by simp [PyData.eqvAll]
  | n :: ns, m :: ms => by
    simp only [List.map_cons, PyData.eqvAll, PyData.eqv, eqv_ints ns ms]
    by_cases h : n = m
    · subst h; by_cases h2 : ns = ms
      · subst h2; simp
      · simp [h2]
    · simp [h]
section
variable {K : PySem.W.Frag} {σ : L2.St} {H : Hp} {ta tb te : TE} {a b : Addr} {ns ms : List Int}
theorem dp_lst (h : SqL K H a (ns.map V.int)) : Dp K H (.ref a) (.list (ns.map PyData.int)) := .lst h (dp_ints ns)
theorem rv_eqI (ha : SqL K H a (ns.map V.int)) (hb : SqL K H b (ms.map V.int)) : RV (rEqD K) (.ref a) (.ref b) H (.bl (decide (ns = ms))) := fun Q q =>
  ⟨_, _, dp_lst ha, dp_lst hb, shaped_ints ns, shaped_ints ms, by rw [PyData.eqv, eqv_ints]; exact q⟩
theorem rv_neI (ha : SqL K H a (ns.map V.int)) (hb : SqL K H b (ms.map V.int)) : RV (rNeD K) (.ref a) (.ref b) H (.bl (!decide (ns = ms))) := fun Q q =>
  ⟨_, _, dp_lst ha, dp_lst hb, shaped_ints ns, shaped_ints ms, by rw [PyData.eqv, eqv_ints]; exact q⟩
/-- xs == [] and xs != [], the empty list made on the way -/
theorem et_isnil [Nod H] (hx : SqL K H a (ns.map V.int)) (ha : Ev ta σ H (.ref a)) : EvT (bFg (tTest (tOp (rEqD K) ta (tLst tNil)))) σ H (decide (ns = [])) :=
  et_fg fun Q q => ha _ (el_nil _ fun p hp => rv_eqI (ms := []) (sq_new hp hx) sq_up _ ⟨_, rfl, q _ (ex_new hp)⟩)
theorem et_nonil [Nod H] (hx : SqL K H a (ns.map V.int)) (ha : Ev ta σ H (.ref a)) : EvT (bFg (tTest (tOp (rNeD K) ta (tLst tNil)))) σ H (!decide (ns = [])) :=
  et_fg fun Q q => ha _ (el_nil _ fun p hp => rv_neI (ms := []) (sq_new hp hx) sq_up _ ⟨_, rfl, q _ (ex_new hp)⟩)
/-- a list made on the way, == [] and != [] -/
theorem et_isnilN [Nod H] (h : EvL ta σ H (ns.map V.int)) : EvT (bFg (tTest (tOp (rEqD K) ta (tLst tNil)))) σ H (decide (ns = [])) :=
  et_fg fun Q q => h _ fun r hr => el_nil _ fun p hp => rv_eqI (ms := []) (sq_new hp sq_up) sq_up _ ⟨_, rfl, q _ (ex_upd (none_upd hp).1 (ex_new hr))⟩
theorem et_nonilN [Nod H] (h : EvL ta σ H (ns.map V.int)) : EvT (bFg (tTest (tOp (rNeD K) ta (tLst tNil)))) σ H (!decide (ns = [])) :=
  et_fg fun Q q => h _ fun r hr => el_nil _ fun p hp => rv_neI (ms := []) (sq_new hp sq_up) sq_up _ ⟨_, rfl, q _ (ex_upd (none_upd hp).1 (ex_new hr))⟩
/-- a call of a def that leaves the heap as it is -/
theorem ev_call {sp : Sp} {vs : List V} {v : V} {E : XK} {t : TA} (h : EvA t σ H vs) (hs : ∀ Q : VK, Q v H → sp vs H Q E) : Ev (tCall sp [] E t) σ H v := fun Q q => h _ (by
  show sp (vs ++ []) H Q E
  rw [List.append_nil]
  exact hs Q q)
theorem el_call {sp : Sp} {vs xs : List V} {E : XK} {t : TA} (h : EvA t σ H vs) (hs : ∀ Q : VK, (∀ p, H p = none → Q (.ref p) (upd H p (.lst xs))) → sp vs H Q E) : EvL (tCall sp [] E t) σ H xs := fun Q q => h _ (by
  show sp (vs ++ []) H Q E
  rw [List.append_nil]
  exact hs Q q)
theorem w_call {sp : Sp} {vs : List V} {E : XK} {t : TA} {Q : VK} (h : EvA t σ H vs) (hs : sp vs H Q E) : tCall sp [] E t σ H Q := h _ (by
  show sp (vs ++ []) H Q E
  rw [List.append_nil]
  exact hs)
end
end Px
set_option Elab.async false
set_option linter.all false
set_option maxRecDepth 100000
set_option maxHeartbeats 4000000
namespace Px
open PySem L2
section
variable {K : PySem.W.Frag} {σ : L2.St} {H : Hp} {ta tb te : TE} {l b : Addr} {ns ms : List Int} {x : Int} {D : Ends} {s2 : TS}
theorem sz (n : Nat) (h : n < 16000000) : n < sizeLine := Nat.lt_of_lt_of_le h (by decide)
theorem s_appI (hz : ns.length < 16000000) (ha : Ev ta σ (upd H l (.lst (ns.map V.int))) (.ref l)) (h : Ev te σ (upd H l (.lst (ns.map V.int))) (.int x)) (k : D.nx σ (upd H l (.lst ((ns ++ [x]).map V.int)))) : tDrop (tBM K "list" rAppend ta (tCons te tNil)) D σ (upd H l (.lst (ns.map V.int))) :=
  s_app upd_same (by rw [List.length_map]; exact sz _ hz) ha h (by rw [upd_upd]; rw [List.map_append] at k; exact k)
theorem q_appI (hz : ns.length < 16000000) (ha : Ev ta σ (upd H l (.lst (ns.map V.int))) (.ref l)) (h : Ev te σ (upd H l (.lst (ns.map V.int))) (.int x)) (k : s2 D σ (upd H l (.lst ((ns ++ [x]).map V.int)))) : tSeq (tDrop (tBM K "list" rAppend ta (tCons te tNil))) s2 D σ (upd H l (.lst (ns.map V.int))) :=
  s_appI (D := { D with nx := s2 D }) hz ha h k
theorem s_retW {D : Ends} (h : te σ H D.rt) : tRet te D σ H := h
theorem w_op {r : R2} {Q : VK} (h : ta σ H fun x H1 => tb σ H1 fun y H2 => r x y H2 Q) : tOp r ta tb σ H Q := h
theorem w_cb {r : List V → Hp → VK → Prop} {t : TA} {Q : VK} (h : t σ H fun vs H1 => r vs H1 Q) : tCB r t σ H Q := h
theorem w_cons {t : TA} {Q : List V → Hp → Prop} (h : ta σ H fun x H1 => t σ H1 fun xs H2 => Q (x :: xs) H2) : tCons ta t σ H Q := h
theorem w_one {Q : List V → Hp → Prop} (h : ta σ H fun x H1 => Q [x] H1) : tCons ta tNil σ H Q := h
theorem w_ev {v : V} {Q : VK} (h : Ev te σ H v) (q : Q v H) : te σ H Q := h Q q
theorem w_lst {t : TA} {Q : VK} (h : t σ H fun xs H1 => xs.length ≤ sizeLine ∧ ∀ p, H1 p = none → Q (.ref p) (upd H1 p (.lst xs))) : tLst t σ H Q := h
theorem w_fg {Q : VK} (h : te σ H fun v H' => ∃ H'', Fg H H' H'' ∧ Q v H'') : tFg te σ H Q := h
theorem w_pop0 {x : V} {xs : List V} {a : Addr} {Q : VK} (ha : Ev ta σ H (.ref a)) (hx : H a = some (.lst (x :: xs))) (q : Q x (upd H a (.lst xs))) : tBM K "list" rPopAt ta (tCons (tC (.int 0)) tNil) σ H Q :=
  ha _ ⟨.inl ⟨rfl, _, sq_at hx⟩, a, x :: xs, 0, 0, x, rfl, rfl, hx, by decide, by decide, by unfold seqIndex?; simp, rfl, q⟩
theorem fg_newL {H H' : Hp} {p : Addr} {xs : List V} [n : Nod H] (hp : H p = none) (e : Ex H H') (h : H' p = some (.lst xs)) : Fg H H' (upd H p (.lst xs)) := fg_new trivial hp e h
theorem fg_mutL {H H' : Hp} {p : Addr} {xs ys : List V} [n : Nod H] (hp : H p = some (.lst xs)) (e : ∀ a u, a ≠ p → H a = some u → H' a = some u) (h : H' p = some (.lst ys)) : Fg H H' (upd H p (.lst ys)) := fg_mut trivial hp e h
theorem fg_mut_newL {H H' : Hp} {l p : Addr} {xs ys zs : List V} [n : Nod H] (hl : H l = some (.lst xs)) (hp : H p = none) (e : ∀ a u, a ≠ l → H a = some u → H' a = some u) (h : H' l = some (.lst ys)) (h2 : H' p = some (.lst zs)) : Fg H H' (upd (upd H l (.lst ys)) p (.lst zs)) := fg_mut_new trivial trivial hl hp e h h2
theorem cutV_int (ns : List Int) (lo hi : Option Int) : cutV (ns.map V.int) lo hi = ((ns.drop (HT.sIx ns.length 0 lo)).take (HT.sIx ns.length ns.length hi - HT.sIx ns.length 0 lo)).map V.int := by
  unfold cutV
  rw [List.length_map, List.map_take, List.map_drop]
theorem cut_to (ns : List Int) (k : Nat) : cutV (ns.map V.int) none (some (k : Int)) = (ns.take k).map V.int := by
  rw [cutV_int, HT.sIx_none, HT.sIx_nat]
  simp
theorem cut_from (ns : List Int) (k : Nat) : cutV (ns.map V.int) (some (k : Int)) none = (ns.drop k).map V.int := by
  rw [cutV_int, HT.sIx_none, HT.sIx_nat]
  by_cases h : k ≤ ns.length
  · rw [show min k ns.length = k by omega, List.take_of_length_le (by simp)]
  · rw [show min k ns.length = ns.length by omega, List.drop_of_length_le (Nat.le_refl _), List.drop_of_length_le (by omega)]
    simp
end
end Px
set_option Elab.async false
set_option linter.all false
set_option maxRecDepth 100000
set_option maxHeartbeats 4000000
namespace Px
open PySem L2
/-- what a for asks, once what it walks is known -/
def Lp (J : It) (g : TG) (tb : TS) (D : Ends) (σ : L2.St) (H1 : Hp) : Prop := ∃ W : Nat → Nat → L2.St → Hp → Prop, (∃ m, W 0 m σ H1) ∧ ∀ i m σ H, W i m σ H →
  (J.stop i H ∧ D.nx σ H) ∨ (J.go i H ∧ ∃ N : L2.St → Hp → Prop, (∀ σ' H', N σ' H' → ∃ m', m' < m ∧ W (i + 1) m' σ' H') ∧ ∀ x H', J.yld i H x H' → g x σ H' fun σ2 H2 => tb { D with nx := N, ct := N, bk := D.nx } σ2 H2)
section
variable {K : PySem.W.Frag} {σ : L2.St} {H : Hp} {D : Ends} {g : TG} {tu s2 : TS} {n : Nat}
theorem w_forR1 {ta : TA} (h : ta σ H fun vs H1 => ∃ j : Int, vs = [.int j] ∧ -(2 ^ 62) ≤ j ∧ j < 2 ^ 62 ∧ Lp (Itr 0 j.toNat) g tu D σ H1) : tFor (iRng1 ta) g tu D σ H := h
theorem w_forR2 {ta : TA} (h : ta σ H fun vs H1 => ∃ i j : Int, vs = [.int i, .int j] ∧ (-(2 ^ 62) ≤ i ∧ i < 2 ^ 62 ∧ -(2 ^ 62) ≤ j ∧ j < 2 ^ 62) ∧ Lp (Itr i (j - i).toNat) g tu D σ H1) : tFor (iRng2 ta) g tu D σ H := h
theorem w_forL {tl : TE} (h : tl σ H fun x H1 => ∃ a, x = .ref a ∧ (∃ xs, SqL K H1 a xs) ∧ Lp (Itl K a) g tu D σ H1) : tFor (iList K tl) g tu D σ H := h
theorem w_forT {tl : TE} (h : tl σ H fun x H1 => ∃ a, x = .ref a ∧ (∃ xs, SqT K H1 a xs) ∧ Lp (Itt K a) g tu D σ H1) : tFor (iTup K tl) g tu D σ H := h
theorem w_forE {ta : TA} (h : ta σ H fun vs H1 => ∃ a xs, vs = [.ref a] ∧ SqL K H1 a xs ∧ Lp (Ite K a) g tu D σ H1) : tFor (iEnum K ta) g tu D σ H := h
theorem w_forZ {ta : TA} (h : ta σ H fun vs H1 => ∃ a b xs ys, vs = [.ref a, .ref b] ∧ SqL K H1 a xs ∧ SqL K H1 b ys ∧ Lp (Itz K a b) g tu D σ H1) : tFor (iZip K ta) g tu D σ H := h
theorem lp_range {k : Nat} (Pv : Nat → L2.St → Hp → Prop) (h0 : Pv 0 σ H)
    (hs : ∀ (i : Nat) σ' H', i < k → Pv i σ' H' → tu { D with nx := Pv (i + 1), ct := Pv (i + 1), bk := D.nx } (σ'.set n (some (.int (i : Int)))) H') (hd : ∀ σ' H', Pv k σ' H' → D.nx σ' H') : Lp (Itr 0 k) (gName n) tu D σ H :=
  for_range (lo := 0) (n := k) Pv h0 (fun i σ' H' hi p => by
    show tu { D with nx := Pv (i + 1), ct := Pv (i + 1), bk := D.nx } (σ'.set n (some (.int ((0 : Int) + (i : Int))))) H'
    rw [Int.zero_add]
    exact hs i σ' H' hi p) hd
theorem lp_list {a : Addr} {xs : List V} (Pv : Nat → L2.St → Hp → Prop) (h0 : Pv 0 σ H) (hl : ∀ i σ' H', i ≤ xs.length → Pv i σ' H' → SqL K H' a xs)
    (hs : ∀ i x σ' H', xs[i]? = some x → Pv i σ' H' → g x σ' H' fun σ2 H2 => tu { D with nx := Pv (i + 1), ct := Pv (i + 1), bk := D.nx } σ2 H2) (hd : ∀ σ' H', Pv xs.length σ' H' → D.nx σ' H') : Lp (Itl K a) g tu D σ H := for_list Pv h0 hl hs hd
theorem lp_tup {a : Addr} {xs : List V} (Pv : Nat → L2.St → Hp → Prop) (h0 : Pv 0 σ H) (hl : ∀ i σ' H', i ≤ xs.length → Pv i σ' H' → SqT K H' a xs)
    (hs : ∀ i x σ' H', xs[i]? = some x → Pv i σ' H' → g x σ' H' fun σ2 H2 => tu { D with nx := Pv (i + 1), ct := Pv (i + 1), bk := D.nx } σ2 H2) (hd : ∀ σ' H', Pv xs.length σ' H' → D.nx σ' H') : Lp (Itt K a) g tu D σ H := for_tup Pv h0 hl hs hd
/-- for k, x in enumerate(xs): two names -/
theorem lp_enum {a : Addr} {xs : List V} {n1 n2 : Nat} (Pv : Nat → L2.St → Hp → Prop) (h0 : Pv 0 σ H) (hl : ∀ i σ' H', i ≤ xs.length → Pv i σ' H' → SqL K H' a xs)
    (hs : ∀ i x σ' H' T, xs[i]? = some x → Pv i σ' H' → H' T = none → tu { D with nx := Pv (i + 1), ct := Pv (i + 1), bk := D.nx } ((σ'.set n1 (some (.int (i : Int)))).set n2 (some x)) (upd H' T (.tup [.int (i : Int), x]))) (hd : ∀ σ' H', Pv xs.length σ' H' → D.nx σ' H') :
    Lp (Ite K a) (gTup K 2 (gCons (gName n1) (gCons (gName n2) gNil))) tu D σ H :=
  for_it (walk_enum (K := K) (a := a) (xs := xs)) Pv h0 hl (fun i v σ' H' H'' hi p y => by
    obtain ⟨T, x, y, rfl, hT, rfl, e1, e2⟩ := y
    cases e1
    exact ⟨T, _, rfl, st_at upd_same, rfl, _, _, rfl, _, _, rfl, rfl, hs i y σ' H' T e2 p hT⟩) hd
/-- for x, y in zip(xs, ys): two names -/
theorem lp_zip {a b : Addr} {xs ys : List V} {n1 n2 : Nat} (Pv : Nat → L2.St → Hp → Prop) (h0 : Pv 0 σ H) (hl : ∀ i σ' H', i ≤ min xs.length ys.length → Pv i σ' H' → SqL K H' a xs ∧ SqL K H' b ys)
    (hs : ∀ i x y σ' H' T, xs[i]? = some x → ys[i]? = some y → Pv i σ' H' → H' T = none → tu { D with nx := Pv (i + 1), ct := Pv (i + 1), bk := D.nx } ((σ'.set n1 (some x)).set n2 (some y)) (upd H' T (.tup [x, y]))) (hd : ∀ σ' H', Pv (min xs.length ys.length) σ' H' → D.nx σ' H') :
    Lp (Itz K a b) (gTup K 2 (gCons (gName n1) (gCons (gName n2) gNil))) tu D σ H :=
  for_it (walk_zip (K := K) (a := a) (b := b) (xs := xs) (ys := ys) rfl) Pv h0 hl (fun i v σ' H' H'' hi p y => by
    obtain ⟨T, x, y, rfl, hT, rfl, e1, e2⟩ := y
    exact ⟨T, _, rfl, st_at upd_same, rfl, _, _, rfl, _, _, rfl, rfl, hs i x y σ' H' T e1 e2 p hT⟩) hd
end
end Px
set_option Elab.async false
set_option linter.all false
set_option maxRecDepth 100000
set_option maxHeartbeats 4000000
namespace Px
open PySem L2
def pV (p : Int → Bool) : V → Bool
  | .int i => p i
  | _ => false
def fV (f : Int → Int) : V → V
  | .int i => .int (f i)
  | v => v
theorem filt_int (p : Int → Bool) (f : Int → Int) (ns : List Int) : ((ns.map V.int).filter (pV p)).map (fV f) = ((ns.filter p).map f).map V.int := by
  induction ns with
  | nil => rfl
  | cons a l ih =>
    simp only [List.map_cons, List.filter_cons]
    show (List.map (fV f) (if pV p (V.int a) = true then V.int a :: List.filter (pV p) (l.map V.int) else List.filter (pV p) (l.map V.int))) = _
    have e : pV p (V.int a) = p a := rfl
    rw [e]
    by_cases h : p a = true
    · rw [if_pos h, if_pos h]
      simp only [List.map_cons, ih]
      rfl
    · rw [if_neg h, if_neg h]
      exact ih
section
variable {K : PySem.W.Frag} {σ : L2.St} {H : Hp} {tl te : TE} {t : TT} {n : Nat}
theorem mem_int {ns : List Int} {x : V} (h : x ∈ ns.map V.int) : ∃ i ∈ ns, x = .int i := by
  obtain ⟨i, hi, rfl⟩ := List.mem_map.mp h
  exact ⟨i, hi, rfl⟩
/-- [f(i) for i in ns if p(i)], ints to ints -/
theorem el_lcI {a : Addr} {ns : List Int} {vs : List Nat} (p : Int → Bool) (f : Int → Int) (h : Ev tl σ H (.ref a)) (hx : SqL K H a (ns.map V.int)) (hz : ns.length ≤ 16000000) (hw : ∀ x, wipe ((wipe σ vs).set n (some x)) vs = wipe σ vs)
    (ht : ∀ i ∈ ns, ∀ D acc, H D = none → EvT t ((wipe σ vs).set n (some (.int i))) (upd H D (.lst acc)) (p i)) (he : ∀ i ∈ ns, p i = true → ∀ D acc, H D = none → Ev te ((wipe σ vs).set n (some (.int i))) (upd H D (.lst acc)) (.int (f i))) :
    EvL (tLc (iList K tl) (gName n) t te vs) σ H (((ns.filter p).map f).map V.int) := by
  rw [← filt_int]
  refine el_lc (pV p) (fV f) h hx (by rw [List.length_map]; exact Nat.le_trans hz (by decide)) hw (fun x hx D acc hD => ?_) (fun x hx hp D acc hD => ?_)
  · obtain ⟨i, hi, rfl⟩ := mem_int hx
    exact ht i hi D acc hD
  · obtain ⟨i, hi, rfl⟩ := mem_int hx
    exact he i hi hp D acc hD
theorem el_lcIN [Nod H] {ns : List Int} {vs : List Nat} (p : Int → Bool) (f : Int → Int) (h : EvL tl σ H (ns.map V.int)) (hz : ns.length ≤ 16000000) (hw : ∀ x, wipe ((wipe σ vs).set n (some x)) vs = wipe σ vs)
    (ht : ∀ i ∈ ns, ∀ q D acc, H q = none → H D = none → q ≠ D → EvT t ((wipe σ vs).set n (some (.int i))) (upd (upd H q (.lst (ns.map V.int))) D (.lst acc)) (p i)) (he : ∀ i ∈ ns, p i = true → ∀ q D acc, H q = none → H D = none → q ≠ D → Ev te ((wipe σ vs).set n (some (.int i))) (upd (upd H q (.lst (ns.map V.int))) D (.lst acc)) (.int (f i))) :
    EvL (tFg (tLc (iList K tl) (gName n) t te vs)) σ H (((ns.filter p).map f).map V.int) := by
  rw [← filt_int]
  refine el_lcN (pV p) (fV f) h (by rw [List.length_map]; exact Nat.le_trans hz (by decide)) hw (fun x hx q D acc hq hD hn => ?_) (fun x hx hp q D acc hq hD hn => ?_)
  · obtain ⟨i, hi, rfl⟩ := mem_int hx
    exact ht i hi q D acc hq hD hn
  · obtain ⟨i, hi, rfl⟩ := mem_int hx
    exact he i hi hp q D acc hq hD hn
/-- a call whose first argument is a new list -/
theorem ev_callL [Nod H] {sp : Sp} {xs vs : List V} {v : V} {E : XK} {ta : TA} (h : EvL tl σ H xs) (ha : ∀ p, H p = none → EvA ta σ (upd H p (.lst xs)) vs) (hs : ∀ p, H p = none → ∀ Q : VK, Q v (upd H p (.lst xs)) → sp (.ref p :: vs) (upd H p (.lst xs)) Q E) : Ev (tFg (tCall sp [] E (tCons tl ta))) σ H v :=
  ev_fg fun Q q => h _ fun p hp => ha p hp _ (by
    show sp (.ref p :: vs ++ []) _ _ E
    rw [List.append_nil]
    exact hs p hp _ (q _ (ex_new hp)))
theorem ex_ne {H H' : Hp} {p : Addr} {xs : List V} {o : HO} (hp : H p = none) (e : Ex H H') : Ex H (upd H' p o) := ex_upd hp e
end
end Px
set_option Elab.async false
set_option linter.all false
set_option maxRecDepth 100000
set_option maxHeartbeats 4000000
namespace Px
open PySem L2
/-! ### tests by what they say -/
def EvP (t : TT) (σ : L2.St) (H : Hp) (P : Prop) : Prop := ∀ Q : Bool → Hp → Prop, (P → Q true H) → (¬ P → Q false H) → t σ H Q
section
variable {K : PySem.W.Frag} {σ : L2.St} {H : Hp} {ta tb tc te tl : TE} {t u : TT} {x y z v : V} {D : Ends} {s1 s2 s3 tu : TS} {n : Nat} {i j k : Int} {P R : Prop}
theorem ev_v' (h : σ[n]? = some (some v)) : Ev (tVar n) σ H v := ev_v n h
theorem ep_of {b : Bool} (h : EvT t σ H b) : EvP t σ H (b = true) := fun Q h1 h2 => h Q (by
  cases b with
  | true => exact h1 rfl
  | false => exact h2 (by decide))
theorem ep_dec [Decidable P] (h : EvT t σ H (decide P)) : EvP t σ H P := fun Q h1 h2 => h Q (by
  by_cases c : P
  · rw [decide_eq_true c]; exact h1 c
  · rw [decide_eq_false c]; exact h2 c)
theorem ep_iff (h : EvP t σ H P) (e : P ↔ R) : EvP t σ H R := fun Q h1 h2 => h Q (fun p => h1 (e.mp p)) fun p => h2 fun r => p (e.mpr r)
theorem ep_lt (ha : Ev ta σ H (.int i)) (hb : Ev tb σ H (.int j)) : EvP (tTest (tOp oLt ta tb)) σ H (i < j) := ep_dec (et_t (ev_lt ha hb))
theorem ep_le (ha : Ev ta σ H (.int i)) (hb : Ev tb σ H (.int j)) : EvP (tTest (tOp oLe ta tb)) σ H (i ≤ j) := ep_dec (et_t (ev_le ha hb))
theorem ep_gt (ha : Ev ta σ H (.int i)) (hb : Ev tb σ H (.int j)) : EvP (tTest (tOp oGt ta tb)) σ H (j < i) := ep_dec (et_t (ev_gt ha hb))
theorem ep_ge (ha : Ev ta σ H (.int i)) (hb : Ev tb σ H (.int j)) : EvP (tTest (tOp oGe ta tb)) σ H (j ≤ i) := ep_dec (et_t (ev_ge ha hb))
theorem ep_eqi (ha : Ev ta σ H (.int i)) (hb : Ev tb σ H (.int j)) : EvP (tTest (tOp rEq ta tb)) σ H (i = j) := ep_dec (et_t (ev_eqi ha hb))
theorem ep_nei (ha : Ev ta σ H (.int i)) (hb : Ev tb σ H (.int j)) : EvP (tTest (tOp rNe ta tb)) σ H (i ≠ j) := fun Q h1 h2 => et_t (ev_nei ha hb) Q (by
  by_cases c : i = j
  · rw [decide_eq_true c]; exact h2 fun z => z c
  · rw [decide_eq_false c]; exact h1 c)
theorem ep_b {b : Bool} (h : Ev te σ H (.bl b)) : EvP (tB te) σ H (b = true) := ep_of (et_b h)
theorem ep_bd [Decidable P] (h : Ev te σ H (.bl (decide P))) : EvP (tB te) σ H P := ep_dec (et_b h)
theorem ep_isN (ha : Ev ta σ H x) : EvP (tTest (tOp oIsN ta (tC .non))) σ H (x = .non) := ep_dec (et_t (ev_isN ha))
theorem ep_not (h : EvP t σ H P) : EvP (tNot t) σ H (¬ P) := fun Q h1 h2 => h _ (fun p => h2 fun z => z p) h1
theorem ep_and (h : EvP t σ H P) (g : P → EvP u σ H R) : EvP (tAnd t u) σ H (P ∧ R) := fun Q h1 h2 => h _ (fun p => iteT (g p _ (fun r => h1 ⟨p, r⟩) fun r => h2 fun z => r z.2)) fun p => iteF (h2 fun z => p z.1)
theorem ep_or (h : EvP t σ H P) (g : ¬ P → EvP u σ H R) : EvP (tOr t u) σ H (P ∨ R) := fun Q h1 h2 => h _ (fun p => iteT (h1 (.inl p))) fun p => iteF (g p _ (fun r => h1 (.inr r)) fun r => h2 fun z => z.elim p r)
theorem ep_yes (h : EvP t σ H P) (p : P) : EvT t σ H true := fun Q q => h Q (fun _ => q) fun z => absurd p z
theorem ep_no (h : EvP t σ H P) (p : ¬ P) : EvT t σ H false := fun Q q => h Q (fun z => absurd z p) fun _ => q
/-- i < j < k -/
theorem ep_chain {r r' : R2} {a b : Bool} (ha : Ev ta σ H x) (hb : Ev tb σ H y) (hr : RV r x y H (.bl a)) (hc : a = true → Ev tc σ H z) (hr' : a = true → RV r' y z H (.bl b)) : EvP (tTest (tChain r r' ta tb tc)) σ H (a = true ∧ b = true) :=
  ep_iff (ep_of (et_t (ev_chain ha hb hr hc hr'))) (by simp)
theorem s_ifP (h : EvP t σ H P) (h1 : P → s1 D σ H) (h2 : ¬ P → s2 D σ H) : tIfS t s1 s2 D σ H := h _ (fun p => iteT (h1 p)) fun p => iteF (h2 p)
theorem q_ifP (h : EvP t σ H P) (h1 : P → s1 { D with nx := s3 D } σ H) (h2 : ¬ P → s2 { D with nx := s3 D } σ H) : tSeq (tIfS t s1 s2) s3 D σ H := s_ifP (D := { D with nx := s3 D }) h h1 h2
theorem q_whenP (h : EvP t σ H P) (h1 : P → s1 { D with nx := s3 D } σ H) (h2 : ¬ P → s3 D σ H) : tSeq (tIfS t s1 tNext) s3 D σ H := s_ifP (D := { D with nx := s3 D }) h h1 h2
theorem s_whenP (h : EvP t σ H P) (h1 : P → s1 D σ H) (h2 : ¬ P → D.nx σ H) : tIfS t s1 tNext D σ H := s_ifP h h1 h2
theorem q_never (h : EvP t σ H P) (h1 : ¬ P) (h2 : s3 D σ H) : tSeq (tIfS t s1 tNext) s3 D σ H := q_whenP h (fun p => absurd p h1) fun _ => h2
theorem s_whileP (W : Nat → L2.St → Hp → Prop) (m0 : Nat) (h0 : W m0 σ H)
    (hs : ∀ m σ' H', W m σ' H' → ∃ P, EvP t σ' H' P ∧ (P → tu { D with nx := fun σ2 H2 => ∃ m', m' < m ∧ W m' σ2 H2, ct := fun σ2 H2 => ∃ m', m' < m ∧ W m' σ2 H2, bk := D.nx } σ' H') ∧ (¬ P → D.nx σ' H')) : tWhile t tu D σ H :=
  ⟨W, ⟨m0, h0⟩, fun m σ' H' hw => by
    obtain ⟨P, hb, h1, h2⟩ := hs m σ' H' hw
    exact hb _ (fun p => iteT ⟨_, fun σ2 H2 q => q, h1 p⟩) fun p => iteF (h2 p)⟩
theorem q_whileP (W : Nat → L2.St → Hp → Prop) (m0 : Nat) (h0 : W m0 σ H)
    (hs : ∀ m σ' H', W m σ' H' → ∃ P, EvP t σ' H' P ∧ (P → tu { D with nx := fun σ2 H2 => ∃ m', m' < m ∧ W m' σ2 H2, ct := fun σ2 H2 => ∃ m', m' < m ∧ W m' σ2 H2, bk := s2 D } σ' H') ∧ (¬ P → s2 D σ' H')) : tSeq (tWhile t tu) s2 D σ H :=
  s_whileP (D := { D with nx := s2 D }) W m0 h0 hs
theorem w_evL {xs : List V} {Q : VK} (h : EvL te σ H xs) (k : ∀ p, H p = none → Q (.ref p) (upd H p (.lst xs))) : te σ H Q := h Q k
theorem w_callW {sp : Sp} {E : XK} {t : TA} {Q : VK} (h : t σ H fun vs H1 => sp (vs ++ []) H1 Q E) : tCall sp [] E t σ H Q := h
theorem w_nil {Q : List V → Hp → Prop} (h : Q [] H) : tNil σ H Q := h
theorem q_drop (h : te σ H fun _ H1 => s2 D σ H1) : tSeq (tDrop te) s2 D σ H := h
theorem s_dropW (h : te σ H fun _ H1 => D.nx σ H1) : tDrop te D σ H := h
theorem w_test {b : Bool} {Q : Bool → Hp → Prop} (h : te σ H fun v H1 => ∃ b, v = .bl b ∧ Q b H1) : tTest te σ H Q := h
theorem w_B {Q : Bool → Hp → Prop} (h : te σ H fun v H1 => ∃ b, v = .bl b ∧ Q b H1) : tB te σ H Q := h
theorem w_if {Q : VK} (h : t σ H fun b H1 => if b = true then ta σ H1 Q else tb σ H1 Q) : tIf t ta tb σ H Q := h
end
/-! ### lists that are one's own, over a base -/
structure Own (B : Hp) (L : List (Addr × List V)) (H : Hp) : Prop where
  nod : Nod H
  ex : Ex B H
  off : ∀ q ∈ L, B q.1 = none
  dis : (L.map (·.1)).Nodup
  has : ∀ q ∈ L, H q.1 = some (.lst q.2)
section
variable {K : PySem.W.Frag} {B H H' : Hp} {L : List (Addr × List V)} {p a : Addr} {xs ys zs : List V}
theorem Own.nil [n : Nod H] : Own H [] H := ⟨n, ex_refl, fun _ h => (List.not_mem_nil h).elim, List.Pairwise.nil, fun _ h => (List.not_mem_nil h).elim⟩
theorem Own.atI (o : Own B L H) (i : Nat) (h : L[i]? = some (p, xs)) : H p = some (.lst xs) := o.has _ (List.mem_of_getElem? h)
theorem Own.sqi (o : Own B L H) (i : Nat) (h : L[i]? = some (p, xs)) : SqL K H p xs := sq_at (o.atI i h)
theorem Own.offI (o : Own B L H) (i : Nat) (h : L[i]? = some (p, xs)) : B p = none := o.off _ (List.mem_of_getElem? h)
theorem Own.sq (o : Own B L H) (h : SqL K B a xs) : SqL K H a xs := ex_sq o.ex h
theorem Own.sqt (o : Own B L H) (h : SqT K B a xs) : SqT K H a xs := ex_sqt o.ex h
theorem Own.new (o : Own B L H) (hp : H p = none) : Own B ((p, xs) :: L) (upd H p (.lst xs)) where
  nod := have := o.nod; inferInstance
  ex := ex_upd (ex_none o.ex hp) o.ex
  off := fun q hq => by
    rcases List.mem_cons.mp hq with rfl | hq
    · exact ex_none o.ex hp
    · exact o.off q hq
  dis := by
    rw [List.map_cons, List.nodup_cons]
    refine ⟨fun z => ?_, o.dis⟩
    obtain ⟨q, hq, e⟩ := List.mem_map.mp z
    have := o.has q hq
    rw [e, hp] at this
    cases this
  has := fun q hq => by
    rcases List.mem_cons.mp hq with rfl | hq
    · exact upd_same
    · rw [upd_ne (ne_of_none (o.has q hq) hp)]; exact o.has q hq
theorem Own.tup (o : Own B L H) (hp : H p = none) : Own B L (upd H p (.tup xs)) where
  nod := have := o.nod; inferInstance
  ex := ex_upd (ex_none o.ex hp) o.ex
  off := o.off
  dis := o.dis
  has := fun q hq => by rw [upd_ne (ne_of_none (o.has q hq) hp)]; exact o.has q hq
theorem Own.tmp (o : Own B L H) (hp : H p = none) : Own B L (upd H p (.lst xs)) where
  nod := have := o.nod; inferInstance
  ex := ex_upd (ex_none o.ex hp) o.ex
  off := o.off
  dis := o.dis
  has := fun q hq => by rw [upd_ne (ne_of_none (o.has q hq) hp)]; exact o.has q hq
theorem Own.any (o : Own B L H) (e : Ex H H') (n : Nod H') : Own B L H' := ⟨n, ex_trans o.ex e, o.off, o.dis, fun q hq => e _ _ (o.has q hq)⟩
theorem Own.mut (o : Own B L H) (i : Nat) (h : L[i]? = some (p, xs)) : Own B (L.set i (p, ys)) (upd H p (.lst ys)) where
  nod := have := o.nod; inferInstance
  ex := fun b u hb => by
    rw [upd_ne (fun e => by rw [e, o.offI i h] at hb; cases hb)]
    exact o.ex b u hb
  off := fun q hq => by
    rcases List.mem_or_eq_of_mem_set hq with hq | rfl
    · exact o.off q hq
    · exact o.offI i h
  dis := by
    have e : (L.set i (p, ys)).map (·.1) = L.map (·.1) := by
      rw [List.map_set]
      obtain ⟨hi, hx⟩ := List.getElem?_eq_some_iff.mp h
      have : (L.map (·.1))[i]'(by simpa using hi) = p := by rw [List.getElem_map, hx]
      have e2 := List.set_getElem_self (as := L.map (·.1)) (i := i) (by simpa using hi)
      rw [this] at e2
      exact e2
    rw [e]; exact o.dis
  has := fun q hq => by
    obtain ⟨j, hj⟩ := List.mem_iff_getElem?.mp hq
    obtain ⟨hi, hx⟩ := List.getElem?_eq_some_iff.mp h
    by_cases e : i = j
    · subst e
      rw [List.getElem?_set_self hi] at hj
      cases hj
      exact upd_same
    · rw [List.getElem?_set_ne e] at hj
      have ne : q.1 ≠ p := fun z => by
        have h1 : (L.map (·.1))[i]? = some p := by rw [List.getElem?_map, h]; rfl
        have h2 : (L.map (·.1))[j]? = some p := by rw [List.getElem?_map, hj]; exact congrArg some z
        have hil : i < (L.map (·.1)).length := by simpa using hi
        exact e ((List.getElem?_inj hil o.dis).mp (h1.trans h2.symm))
      rw [upd_ne ne]
      exact o.has q (List.mem_of_getElem? hj)
theorem Own.sub {L' : List (Addr × List V)} (o : Own B L H) (s : L'.Sublist L) : Own B L' H := ⟨o.nod, o.ex, fun q h => o.off q (s.subset h), o.dis.sublist (s.map _), fun q h => o.has q (s.subset h)⟩
theorem Own.drop1 {q : Addr × List V} (o : Own B (q :: L) H) : Own B L H := o.sub (List.sublist_cons_self _ _)
theorem Own.drop2 {q r : Addr × List V} (o : Own B (r :: q :: L) H) : Own B (r :: L) H := o.sub ((List.sublist_cons_self _ _).cons₂ _)
theorem Own.perm {L' : List (Addr × List V)} (o : Own B L H) (s : L'.Perm L) : Own B L' H := ⟨o.nod, o.ex, fun q h => o.off q (s.mem_iff.mp h), (s.map _).nodup_iff.mpr o.dis, fun q h => o.has q (s.mem_iff.mp h)⟩
/-- all of it is the base from here on -/
theorem Own.base (o : Own B L H) : Own H [] H := have := o.nod; Own.nil
theorem Own.keep (o : Own B L H) [Nod B] : Fg B H B := fg_same o.ex
theorem Own.ret (o : Own B L H) [Nod B] (i : Nat) (h : L[i]? = some (p, xs)) : Fg B H (upd B p (.lst xs)) := fg_newL (o.offI i h) o.ex (o.atI i h)
/-- within a longer life: what was one's own is part of the base of another -/
theorem Own.into {B2 : Hp} {M : List (Addr × List V)} (o : Own B L H) (o2 : Own H M B2) : Own B L B2 := o.any o2.ex o2.nod
/-! ### a list that is handed in and changed -/
def del (H : Hp) (a : Addr) : Hp := fun b => if b = a then none else H b
theorem del_ex : Ex (del H a) H := fun b o h => by
  unfold del at h
  split at h
  · cases h
  · exact h
theorem del_at : del H a a = none := if_pos rfl
theorem del_ne {b : Addr} (h : b ≠ a) : del H a b = H b := if_neg h
theorem del_sq {r : Addr} (h : r ≠ a) (s : SqL K H r xs) : SqL K (del H a) r xs := by
  rcases s with (s | ⟨ob, s⟩) | s
  · exact .inl (.inl (by rw [del_ne h]; exact s))
  · exact .inl (.inr ⟨ob, by rw [del_ne h]; exact s⟩)
  · exact .inr s
theorem Own.enter [n : Nod H] (h : H a = some (.lst xs)) : Own (del H a) [(a, xs)] H :=
  ⟨n, del_ex, fun q hq => by rw [List.mem_singleton.mp hq]; exact del_at, by simp, fun q hq => by rw [List.mem_singleton.mp hq]; exact h⟩
theorem Own.exit [Nod H] (o : Own (del H a) L H') (h : H a = some (.lst xs)) (i : Nat) (hi : L[i]? = some (a, ys)) : Fg H H' (upd H a (.lst ys)) :=
  fg_mutL h (fun b u hb hu => o.ex b u (by rw [del_ne hb]; exact hu)) (o.atI i hi)
theorem Own.exitN [Nod H] (o : Own (del H a) L H') (h : H a = some (.lst xs)) (i j : Nat) (hi : L[i]? = some (a, ys)) (hj : L[j]? = some (p, zs)) (ne : p ≠ a) : Fg H H' (upd (upd H a (.lst ys)) p (.lst zs)) :=
  fg_mut_newL h (by have := o.offI j hj; rw [del_ne ne] at this; exact this) (fun b u hb hu => o.ex b u (by rw [del_ne hb]; exact hu)) (o.atI i hi) (o.atI j hj)
theorem Own.ne (o : Own B L H) (i j : Nat) (hi : L[i]? = some (p, xs)) (hj : L[j]? = some (a, ys)) (h : i ≠ j) : p ≠ a := fun z => by
  have h1 : (L.map (·.1))[i]? = some p := by rw [List.getElem?_map, hi]; rfl
  have h2 : (L.map (·.1))[j]? = some p := by rw [List.getElem?_map, hj]; exact congrArg some z.symm
  have hil : i < (L.map (·.1)).length := by have := (List.getElem?_eq_some_iff.mp hi).1; simpa using this
  exact h ((List.getElem?_inj hil o.dis).mp (h1.trans h2.symm))
theorem Own.neB (o : Own B L H) (i : Nat) (hi : L[i]? = some (p, xs)) {u : HO} (h : B a = some u) : a ≠ p := fun z => by rw [z, o.offI i hi] at h; cases h
end
end Px
set_option Elab.async false
set_option linter.all false
set_option maxRecDepth 100000
set_option maxHeartbeats 4000000
/-! list(enumerate(xs)), xs a list: after the model of the kit's list(d.items()) -/
namespace PySem.W
open PySem PySem.Calls PyProof.Rows PyProof.V PySem.Spec
theorem enl_no_len : typeLookup (.type "enumerate") "__len__" = pure none := am_miss_of_fast (by decide +kernel)
theorem enl_no_hint : typeLookup (.type "enumerate") "__length_hint__" = pure none := am_miss_of_fast (by decide +kernel)
structure EnG (items : Array Value) (lo : Addr) (h : Heap) (as : List Addr) : Prop where
  rise : as.Pairwise (· < ·)
  above : ∀ a ∈ as, lo < a
  pairs : ∀ (j : Nat) (a : Addr), as[j]? = some a → ∃ (hj : j < items.size) (tk : Nat), h.get? a = some { cls := .type "tuple", data := .seq #[.int j tk, items[j]] }
theorem EnG.there {items : Array Value} {lo : Addr} {h : Heap} {as : List Addr} (g : EnG items lo h as) {a : Addr} (ha : a ∈ as) : a < h.objs.size := by
  obtain ⟨j, hj⟩ := List.mem_iff_getElem?.mp ha
  obtain ⟨_, _, e⟩ := g.pairs j a hj
  exact Heap.lt_size e
def EnSt (h : Heap) (e it l S : Addr) (i : Nat) (items : Array Value) : Prop :=
  h.IsListIter it l i ∧ h.IsList l items ∧ ((∃ old, IsEnum h e it i old) ∨ ∃ old T f oT, IsEnumHeld h e it i old T f ∧ h.get? T = some oT ∧ T ≠ e ∧ T ≠ it ∧ T ≠ S)
theorem EnSt.keep {h h' : Heap} {e it l S : Addr} {i : Nat} {items : Array Value} (st : EnSt h e it l S i items) (hk : ∀ b o, b ≠ S → h.get? b = some o → h'.get? b = some o) (h1 : e ≠ S) (h2 : it ≠ S) (h3 : l ≠ S) : EnSt h' e it l S i items := by
  obtain ⟨hit, hl, he⟩ := st
  refine ⟨hit.at fun o x => hk _ o h2 x, hl.at fun o x => hk _ o h3 x, ?_⟩
  rcases he with ⟨old, he⟩ | ⟨old, T, f, oT, he, hT, r1, r2, r3⟩
  · exact .inl ⟨old, hk _ _ h1 he⟩
  · exact .inr ⟨old, T, f, oT, hk _ _ h1 he, hk _ _ r3 hT, r1, r2, r3⟩
section
variable {prog : Program} {w : World} {A : Around} {E : Value → Shared → Prop} {s : Shared}
theorem en_item {e it l S : Addr} {i : Nat} {items : Array Value} {Q : Option Value → Shared → Prop} (st : EnSt s.heap e it l S i items) (hS : S < s.heap.objs.size) (hei : e ≠ it) (hle : l ≠ e) (hli : l ≠ it) (hlt : i < items.size)
    (hQ : ∀ h' tk, EnSt h' e it l S (i + 1) items → (∃ t, h'.get? s.heap.objs.size = some { cls := .type "tuple", data := .seq #[.int i t, items[i]] }) →
      (∀ b o, b ≠ e → b ≠ it → s.heap.get? b = some o → h'.get? b = some o) → Q (some (.ref s.heap.objs.size)) { s with heap := h', toks := tk }) :
    wpAny (model prog w) A (pyNext (.ref e)) Q E s := by
  obtain ⟨hit, hl, he⟩ := st
  have ex := Array.getElem?_eq_getElem hlt
  have ec : ((i + 1 : Nat) : Int) = (i : Int) + 1 := by omega
  have nit : s.heap.objs.size ≠ it := let ⟨_, x, _⟩ := hit; Nat.ne_of_gt (Heap.lt_size x)
  rcases he with ⟨old, he⟩ | ⟨old, T, f, oT, he, hT, r1, r2, r3⟩
  · refine wpAny_pyNext_enum_item he hit hl ex hei fun h' ho hit' hT hsz hk => ?_
    exact hQ h' (s.toks + 1) ⟨hit', hl.at fun o x => hk l o hle hli x, .inr ⟨_, s.heap.objs.size, false, _, (by rw [ec]; exact ho), hT, Nat.ne_of_gt (Heap.lt_size he), nit, Nat.ne_of_gt hS⟩⟩ ⟨_, hT⟩ hk
  · refine wpAny_pyNext_enum_item_held he hT r1 r2 hit hl ex hei fun h' ho hit' hT' hsz hk => ?_
    exact hQ h' (s.toks + 1) ⟨hit', hl.at fun o x => hk l o hle hli x, .inr ⟨old, T, true, oT, (by rw [ec]; exact ho), hk _ _ r1 r2 hT, r1, r2, r3⟩⟩ ⟨_, hT'⟩ hk
theorem en_done {e it l S : Addr} {i : Nat} {items : Array Value} {Q : Option Value → Shared → Prop} (hh : A.handled = none) (st : EnSt s.heap e it l S i items) (hge : items.size ≤ i)
    (hQ : ∀ h', Heap.ExtBut it s.heap h' → Q none { s with heap := h' }) : wpAny (model prog w) A (pyNext (.ref e)) Q E s := by
  obtain ⟨hit, hl, he⟩ := st
  have hx : items[i]? = none := Array.getElem?_eq_none hge
  rcases he with ⟨old, he⟩ | ⟨old, T, f, oT, he, hT, r1, r2, r3⟩
  · exact wpAny_pyNext_enum_end hh he hit hl hx hQ
  · exact wpAny_pyNext_enum_end_held hh he hit hl hx hQ
end
section
variable {prog : Program} {w : World} {A : Around} {s : Shared} {R : Result → Shared → Prop} {items : Array Value}
theorem en_loop {S e it l : Addr} (hh : A.handled = none) (heS : e < S) (hiS : it < S) (hlS : l ≠ S) (hei : e ≠ it) (hle : l ≠ e) (hli : l ≠ it) (hn : items.size ≤ sizeLine) (res : Value) {h₁ : Heap}
    (hR : ∀ h' tk acc c as, (∀ b o, b ≠ S → b ≠ e → b ≠ it → h₁.get? b = some o → h'.get? b = some o) → h'.get? S = some { cls := .type "list", dict := none, data := .seq acc c, slots := #[] } → as.length = items.size → EnG items S h' as →
      acc.toList = as.map Value.ref → R (.ok (.ret res)) { s with heap := h', toks := tk }) :
    ∀ (k i : Nat) (h : Heap) (tk c : Nat) (acc : Array Value) (as : List Addr), items.size - i = k → i ≤ items.size → EnSt h e it l S i items → (∀ b o, b ≠ S → b ≠ e → b ≠ it → h₁.get? b = some o → h.get? b = some o) →
      h.get? S = some { cls := .type "list", dict := none, data := .seq acc c, slots := #[] } → acc.toList = as.map Value.ref → as.length = i → EnG items S h as →
      codeAny (model prog w) A (.builtin "list.extend.loop" ⟨[.ref S, .ref e, res], []⟩) R { s with heap := h, toks := tk } := by
  have hne : S ≠ e := Nat.ne_of_gt heS
  have hni : S ≠ it := Nat.ne_of_gt hiS
  intro k
  induction k with
  | zero =>
    intro i h tk c acc as hk hi hst hkeep hS hacc hal hG
    refine codeAny_builtin PySem.F.entry_extend_loop ?_
    rw [Around.under_plainId PySem.F.plain_extend_loop _]
    show wpAny _ A.in1 (pyNext (.ref e) >>= _) _ _ _
    refine wpAny_bind (en_done (s := { s with heap := h, toks := tk }) (A := A.in1) hh hst (by omega) fun h' he => ?_)
    refine wpAny_pure (hR h' tk acc c as (fun b o h1 h2 h3 x => he b o h3 (hkeep b o h1 h2 h3 x)) (he S _ hni hS) (by omega) ⟨hG.rise, hG.above, fun j a hj => ?_⟩ hacc)
    obtain ⟨hj', tk', e3⟩ := hG.pairs j a hj
    exact ⟨hj', tk', he a _ (Nat.ne_of_gt (Nat.lt_trans hiS (hG.above a (List.mem_of_getElem? hj)))) e3⟩
  | succ k ih =>
    intro i h tk c acc as hk hi hst hkeep hS hacc hal hG
    have hlt : i < items.size := by omega
    have hsz : acc.size = i := by rw [← Array.length_toList, hacc, List.length_map, hal]
    refine codeAny_builtin PySem.F.entry_extend_loop ?_
    rw [Around.under_plainId PySem.F.plain_extend_loop _]
    show wpAny _ A.in1 (pyNext (.ref e) >>= _) _ _ _
    refine wpAny_bind (en_item (s := { s with heap := h, toks := tk }) hst (Heap.lt_size hS) hei hle hli hlt fun h' tk' hst' ht hkp => ?_)
    dsimp only at ht hkp ⊢
    have hS' := hkp S _ hne hni hS
    have up : ∀ b o, b ≠ S → h'.get? b = some o → (h'.update S (Obj.mapSeq (·.push (Value.ref h.objs.size)))).get? b = some o := fun b o hb x => (Heap.get?_update_other _ _ (Ne.symm hb)).trans x
    have hSl : S < h.objs.size := Heap.lt_size hS
    show wpAny _ A.in1 (updateSeq S (·.push (Value.ref h.objs.size)) >>= _) _ _ _
    refine wpAny_bind ?_
    refine wpAny_updateSeq hS' rfl (wpAny_pure ⟨plainId_quiet PySem.F.plain_extend_loop _, ih (i + 1) _ tk' _ (acc.push (Value.ref h.objs.size)) (as ++ [h.objs.size]) (by omega) hlt (hst'.keep up (Ne.symm hne) (Ne.symm hni) hlS)
      (fun b o h1 h2 h3 x => up b o h1 (hkp b o h2 h3 (hkeep b o h1 h2 h3 x))) (Heap.get?_update_self _ hS' rfl) (by rw [Array.toList_push, hacc, List.map_append]; rfl) (by rw [List.length_append, hal]; rfl) ⟨?_, ?_, ?_⟩⟩) (by rw [hsz]; omega) (by show (acc.push (Value.ref h.objs.size)).size ≤ sizeLine + 1; rw [Array.size_push, hsz]; omega)
    · refine List.pairwise_append.mpr ⟨hG.rise, List.pairwise_singleton _ _, fun a ha b hb => ?_⟩
      rw [List.mem_singleton.mp hb]
      exact hG.there ha
    · intro a ha
      rcases List.mem_append.mp ha with ha | ha
      · exact hG.above a ha
      · rw [List.mem_singleton.mp ha]; exact hSl
    · intro j b hj
      rcases Nat.lt_trichotomy j as.length with h1 | h1 | h1
      · rw [List.getElem?_append_left h1] at hj
        obtain ⟨hj', tk2, e3⟩ := hG.pairs j b hj
        have hb := hG.above b (List.mem_of_getElem? hj)
        exact ⟨hj', tk2, up b _ (Nat.ne_of_gt hb) (hkp b _ (Nat.ne_of_gt (Nat.lt_trans heS hb)) (Nat.ne_of_gt (Nat.lt_trans hiS hb)) e3)⟩
      · subst h1
        have hb : h.objs.size = b := by simpa using hj
        subst hb
        obtain ⟨t, ht⟩ := ht
        exact ⟨by omega, t, by subst hal; exact up _ _ (Nat.ne_of_gt hSl) ht⟩
      · have hnone : (as ++ [h.objs.size])[j]? = none := List.getElem?_eq_none (by rw [List.length_append, List.length_singleton]; omega)
        rw [hnone] at hj; cases hj
end
section
variable {prog : Program} {w : World} {A : Around} {E : Value → Shared → Prop} {s : Shared} {e it l : Addr} {items : Array Value}
theorem en_hint (hT : s.TypeIs (.ref e) "enumerate") {Q : Bool → Shared → Prop} (h : Q true s) : wpAny (model prog w) A (Builtin.List.listLengthHint (.ref e)) Q E s := by
  unfold Builtin.List.listLengthHint
  refine wpAny_bind (wpAny_specialOf hT enl_no_len ?_)
  refine wpAny_bind (wpAny_specialOf hT enl_no_hint ?_)
  exact wpAny_pure h
theorem en_extend {R : Result → Shared → Prop} (hh : A.handled = none) {old : Value} (he : IsEnum s.heap e it 0 old) (hit : s.heap.IsListIter it l 0) (hl : s.heap.IsList l items) (hei : e ≠ it) (hle : l ≠ e) (hli : l ≠ it) (S : Addr) (heS : e < S) (hiS : it < S) (hlS : l ≠ S) (res : Value) (c₀ : Nat) (hS : s.heap.get? S = some { cls := .type "list", data := .seq #[] c₀ })
    (hR : ∀ h' tk acc c as, (∀ b o, b ≠ S → b ≠ e → b ≠ it → s.heap.get? b = some o → h'.get? b = some o) → h'.get? S = some { cls := .type "list", dict := none, data := .seq acc c, slots := #[] } → as.length = items.size → EnG items S h' as →
      acc.toList = as.map Value.ref → R (.ok (.ret res)) { s with heap := h', toks := tk }) (hn : items.size ≤ sizeLine) :
    wpAny (model prog w) A.in1 (Builtin.List.listExtendWith (.ref S) (.ref e) res)
      (fun fin s' => match fin with | .done f => R (.ok f) s' | .again c' => c'.quiet = true ∧ codeAny (model prog w) A c' R s') (fun x s' => R (.error x) s') s := by
  have key : ∀ (h : Heap) (c₁ tk : Nat), (∀ b o, b ≠ S → s.heap.get? b = some o → h.get? b = some o) →
      h.get? S = some { cls := .type "list", data := .seq #[] c₁ } → codeAny (model prog w) A (.builtin "list.extend.loop" ⟨[.ref S, .ref e, res], []⟩) R { s with heap := h, toks := tk } := by
    intro h c₁ tk hk hS₁
    refine en_loop (items := items) (s := s) (h₁ := s.heap) hh heS hiS hlS hei hle hli hn res (fun h' tk' acc c as hk' hS' hl hG hacc => hR h' tk' acc c as hk' hS' hl hG hacc)
      items.size 0 h tk c₁ #[] [] (Nat.sub_zero _) (Nat.zero_le _) ⟨hit.at fun o x => hk _ o (Nat.ne_of_lt hiS) x, hl.at fun o x => hk _ o hlS x, .inl ⟨old, hk _ _ (Nat.ne_of_lt heS) he⟩⟩ (fun b o hb _ _ x => hk b o hb x) hS₁ rfl rfl
      ⟨List.Pairwise.nil, (fun _ ha => nomatch ha), (fun j a hj => by simp at hj)⟩
  have hTy : s.TypeIs (.ref e) "enumerate" := ⟨_, he, rfl⟩
  unfold Builtin.List.listExtendWith
  refine wpAny_bind (wpAny_typeOf (T := "enumerate") hTy ?_)
  have h1 : Builtin.List.listSameRef (.ref S) (.ref e) = false := by simp [Builtin.List.listSameRef, Nat.ne_of_gt heS]
  have h2 : (Value.type "enumerate" == Value.type "list") = false := by decide
  have h3 : (Value.type "enumerate" == Value.type "tuple") = false := by decide
  simp only [h1, h2, h3, Bool.or_false, Bool.false_eq_true, if_false]
  refine wpAny_bind (wpAny_pyIter_enum he ?_)
  refine wpAny_bind (wpAny_holding (en_hint hTy ?_))
  simp only [Bool.true_or, if_true]
  refine wpAny_bind (wpAny_rule ?_)
  refine wpAny_bind ?_
  show wpAny _ _ (updateSeq S (·.push .none) >>= fun _ => updateSeq S (·.pop)) _ _ _
  refine wpAny_bind (wpAny_updateSeq hS rfl ?_)
  have hS₂ := Heap.get?_update_self (Obj.mapSeq (·.push Value.none)) hS rfl
  refine wpAny_updateSeq (hz := by seq_fits) hS₂ rfl ?_
  have hS₃ := Heap.get?_update_self (Obj.mapSeq (·.pop)) hS₂ rfl
  refine wpAny_pure ⟨plainId_quiet PySem.F.plain_extend_loop _, key _ _ _ (fun b o hb x => ?_) hS₃⟩
  exact (Heap.get?_update_other _ _ (Ne.symm hb)).trans ((Heap.get?_update_other _ _ (Ne.symm hb)).trans x)
theorem en_init {R : Result → Shared → Prop} (hh : A.handled = none) {old : Value} (he : IsEnum s.heap e it 0 old) (hit : s.heap.IsListIter it l 0) (hl : s.heap.IsList l items) (hei : e ≠ it) (hle : l ≠ e) (hli : l ≠ it) (S : Addr) (heS : e < S) (hiS : it < S) (hlS : l ≠ S) (hS : s.heap.get? S = some { cls := .type "list", data := .seq #[] })
    (hR : ∀ h' tk acc c as, (∀ b o, b ≠ S → b ≠ e → b ≠ it → s.heap.get? b = some o → h'.get? b = some o) → h'.get? S = some { cls := .type "list", dict := none, data := .seq acc c, slots := #[] } → as.length = items.size → EnG items S h' as →
      acc.toList = as.map Value.ref → R (.ok (.ret .none)) { s with heap := h', toks := tk }) (hn : items.size ≤ sizeLine) :
    wpAny (model prog w) A.in1 (Builtin.«list.__init__» ⟨[.ref S, .ref e], []⟩)
      (fun fin s' => match fin with | .done f => R (.ok f) s' | .again c' => c'.quiet = true ∧ codeAny (model prog w) A c' R s') (fun x s' => R (.error x) s') s := by
  show wpAny _ _ (do let old ← Builtin.List.listItems (.ref S); Builtin.List.listUpdate (.ref S) (fun _ => #[]); letGo old.toList.reverse; Builtin.List.listExtendWith (.ref S) (.ref e) .none) _ _ s
  refine wpAny_bind ?_
  unfold Builtin.List.listItems
  refine wpAny_bind (wpAny_seqItems hS rfl (wpAny_pure ?_))
  show wpAny _ _ (updateSeq S (fun _ => #[]) >>= fun _ => letGo (#[] : Array Value).toList.reverse >>= fun _ => Builtin.List.listExtendWith (.ref S) (.ref e) .none) _ _ s
  refine wpAny_bind (wpAny_updateSeq hS rfl ?_)
  have hS₂ := Heap.get?_update_self (Obj.mapSeq (fun _ => (#[] : Array Value))) hS rfl
  have oth : ∀ b o, b ≠ S → s.heap.get? b = some o → (s.heap.update S (Obj.mapSeq (fun _ => (#[] : Array Value)))).get? b = some o :=
    fun b o hb x => (Heap.get?_update_other _ _ (Ne.symm hb)).trans x
  refine wpAny_bind (wpAny_letGo ?_)
  refine en_extend hh (oth _ _ (Nat.ne_of_lt heS) he) (hit.at fun o x => oth _ o (Nat.ne_of_lt hiS) x) (hl.at fun o x => oth _ o hlS x) hei hle hli S heS hiS hlS .none _ hS₂ (fun h' tk acc c as hk hS' hl hG hacc => ?_) hn
  exact hR h' tk acc c as (fun b o h1 h2 h3 x => hk b o h1 h2 h3 (oth b o h1 x)) hS' hl hG hacc
theorem en_call {Q : Value → Shared → Prop} (hh : A.handled = none) {old : Value} (he : IsEnum s.heap e it 0 old) (hit : s.heap.IsListIter it l 0) (hl : s.heap.IsList l items) (hei : e ≠ it) (hle : l ≠ e) (hli : l ≠ it) (hn : items.size ≤ sizeLine)
    (hQ : ∀ h' tk acc c as, (∀ b o, b ≠ e → b ≠ it → s.heap.get? b = some o → h'.get? b = some o) → h'.get? s.heap.objs.size = some { cls := .type "list", dict := none, data := .seq acc c, slots := #[] } → as.length = items.size → EnG items s.heap.objs.size h' as →
      acc.toList = as.map Value.ref → Q (.ref s.heap.objs.size) { s with heap := h', toks := tk }) :
    wpAny (model prog w) A (call (.type "list") [.ref e]) Q E s := by
  refine callType_codes (Q₁ := fun obj s₁ => obj = .ref s.heap.objs.size ∧ s₁ = { s with heap := s.heap.push { cls := .type "list", data := .seq #[] } }) PySem.F.called_list (PySem.F.typeCall_list_1 _) PySem.F.entry_list_init
    (code_list_new _ ⟨rfl, rfl⟩) fun obj s₁ h₁ => ?_
  obtain ⟨rfl, rfl⟩ := h₁
  have hS : (s.heap.push { cls := .type "list", data := .seq #[] }).get? s.heap.objs.size = some { cls := .type "list", data := .seq #[] } := Heap.get?_push_size _ rfl
  have h1 : e < s.heap.objs.size := Heap.lt_size he
  have h2 : it < s.heap.objs.size := let ⟨_, ho, _⟩ := hit; Heap.lt_size ho
  have h3 : l < s.heap.objs.size := let ⟨_, ho, _⟩ := hl; Heap.lt_size ho
  refine ⟨⟨_, hS, rfl⟩, PySem.F.args_list_init_2 _ _, en_init (A := A.in1) hh (Heap.get?_push_of_some _ he) (hit.at fun o x => Heap.get?_push_of_some _ x) (hl.at fun o x => Heap.get?_push_of_some _ x) hei hle hli _ h1 h2 (Nat.ne_of_lt h3) hS (fun h' tk acc c as hk hS' hl hG hacc => ?_) hn⟩
  exact ⟨rfl, hQ h' tk acc c as (fun b o x1 x2 x => hk b o (Nat.ne_of_lt (Heap.lt_size x)) x1 x2 (Heap.get?_push_of_some _ x)) hS' hl hG hacc⟩
end
end PySem.W
namespace Px
open PySem L2 PySem.W
/-- pairs (j, x) laid at as -/
def layT (H : Hp) : Nat → List Addr → List V → Hp
  | j, a :: as, x :: xs => upd (layT H (j + 1) as xs) a (.tup [.int (j : Int), x])
  | _, _, _ => H
theorem layT_off {H : Hp} {b : Addr} : ∀ {as : List Addr} {xs : List V} {j : Nat}, b ∉ as → layT H j as xs b = H b
  | [], _, _, _ => rfl
  | _ :: _, [], _, _ => rfl
  | a :: as, x :: xs, j, h => by
    rw [List.mem_cons, not_or] at h
    rw [layT, upd_ne h.1, layT_off h.2]
theorem layT_at {H : Hp} {b : Addr} {x : V} : ∀ {as : List Addr} {xs : List V} {j i : Nat}, as.Nodup → as[i]? = some b → xs[i]? = some x → layT H j as xs b = some (.tup [.int ((j + i : Nat) : Int), x])
  | [], _, _, i, _, h, _ => by simp at h
  | _ :: _, [], _, i, _, _, h => by simp at h
  | a :: as, y :: xs, j, 0, _, h1, h2 => by
    simp at h1 h2
    subst h1 h2
    rw [layT, upd_same]; rfl
  | a :: as, y :: xs, j, i + 1, nd, h1, h2 => by
    simp at h1 h2
    have hb : b ≠ a := fun z => (List.nodup_cons.mp nd).1 (z ▸ List.mem_of_getElem? h1)
    rw [layT, upd_ne hb, layT_at (List.nodup_cons.mp nd).2 h1 h2]
    rw [show j + 1 + i = j + (i + 1) by omega]
theorem layT_tup {H : Hp} {b : Addr} {o : HO} : ∀ {as : List Addr} {xs : List V} {j : Nat}, layT H j as xs b = some o → H b = some o ∨ ∃ i x, as[i]? = some b ∧ xs[i]? = some x ∧ o = .tup [.int ((j + i : Nat) : Int), x]
  | [], _, _, h => .inl h
  | _ :: _, [], _, h => .inl h
  | a :: as, y :: xs, j, h => by
    by_cases hb : b = a
    · subst hb
      rw [layT, upd_same] at h
      cases h
      exact .inr ⟨0, y, rfl, rfl, rfl⟩
    · rw [layT, upd_ne hb] at h
      rcases layT_tup h with h | ⟨i, x, h1, h2, h3⟩
      · exact .inl h
      · exact .inr ⟨i + 1, x, by simpa using h1, by simpa using h2, by rw [h3, show j + 1 + i = j + (i + 1) by omega]⟩
/-- list(enumerate(e)) -/
def tEnumL (K : PySem.W.Frag) (ta : TA) : TE := fun σ H Q => ta σ H fun vs H1 => ∃ a xs, vs = [.ref a] ∧ SqL K H1 a xs ∧
  ∀ l (as : List Addr), H1 l = none → l ∉ as → as.Nodup → (∀ b ∈ as, H1 b = none) → as.length = xs.length → Q (.ref l) (upd (layT H1 0 as xs) l (.lst (as.map V.ref)))
theorem vals_refs : ∀ {as : List Addr}, Vals (as.map V.ref) (as.map Value.ref)
  | [] => .nil
  | _ :: _ => .cons rfl vals_refs
theorem pe_listEnum {X : Cx} {e : Expr} {ta : TA} {p1 p2 pos1 pos2 : Pos} (hg1 : Gl X "list") (hm1 : X.mg "list" = none) (hg2 : Gl X "enumerate") (hm2 : X.mg "enumerate" = none) (hc : X.calm = true) (ha : PA X [e] ta) (hs : starEach [e] X.env = [(false, eval e X.env)] := by rfl)
    (hs2 : starEach [.Call (.Name "enumerate" p2) [e] [] pos2] X.env = [(false, eval (.Call (.Name "enumerate" p2) [e] [] pos2) X.env)] := by rfl) :
    PE X (.Call (.Name "list" p1) [.Call (.Name "enumerate" p2) [e] [] pos2] [] pos1) (tEnumL X.K ta) := by
  refine ⟨fun pins s σ H Q I h => ?_⟩
  refine wpAny_Call_Name_kw (ld_blt I hg1 hm1 (show bootBuiltins "list" = some (.type "list") by decide +kernel) ?_ (by decide) (by decide))
  refine PyProof.Rows.callWith_type1 ?_ hs2 rfl
  rw [hs2]
  refine Calls.spliced_cons (thn (Q := fun v s1 => wpAny (model X.prog X.w) X.A (call (.type "list") [v]) (EP X pins σ Q) X.xe s1) ?_ fun v s1 h1 => Calls.spliced_nil h1)
  refine wpAny_Call_Name_kw (ld_blt I hg2 hm2 (show bootBuiltins "enumerate" = some (.type "enumerate") by decide +kernel) ?_ (by decide) (by decide))
  refine PyProof.Rows.callWith_type1 (thn (ha.run pos2 pins s σ H _ I h) fun us s1 ⟨vs, H1, I1, r1, q1⟩ => ?_) hs rfl
  obtain ⟨a, xs, ex, hq, q⟩ := q1
  subst ex
  cases r1 with
  | cons r rr =>
    cases rr
    cases r
    obtain ⟨its, rv, p', hz⟩ := I1.list hq
    refine call_enumerate_list p'.isList fun h' he hit hsz hk => ?_
    have hal : a < s1.heap.objs.size := let ⟨_, ho, _⟩ := p'.isList; Heap.lt_size ho
    refine en_call (s := { s1 with heap := h' }) (items := its.toArray) (I1.ok.hd hc) he hit (p'.isList.at fun o x => hk _ o x) (Nat.succ_ne_self _) (Nat.ne_of_lt (Nat.lt_succ_of_lt hal)) (Nat.ne_of_lt hal) (by rw [List.size_toArray, ← rv.length]; exact hz) fun h2 tk acc c as hk2 hS hlen hG hacc => ?_
    have hlo : ∀ b ∈ as, s1.heap.objs.size ≤ b := fun b hb => by
      have h1 := hG.above b hb
      have h1 : h'.objs.size < b := h1
      rw [hsz] at h1
      exact Nat.le_of_lt (Nat.lt_trans (Nat.lt_add_of_pos_right (by decide)) h1)
    have hS' : h2.get? (s1.heap.objs.size + 2) = some { cls := .type "list", dict := none, data := .seq acc c, slots := #[] } := by rw [← hsz]; exact hS
    have hnd : as.Nodup := hG.rise.imp fun h => Nat.ne_of_lt h
    have hla : h'.objs.size ∉ as := fun z => Nat.lt_irrefl _ (hG.above _ z)
    have hlen2 : as.length = xs.length := by rw [hlen, List.size_toArray, rv.length]
    have hkeep : ∀ b u, s1.heap.get? b = some u → h2.get? b = some u := fun b u x => hk2 b u (Nat.ne_of_lt (Nat.lt_succ_of_lt (Heap.lt_size x))) (Nat.ne_of_lt (Heap.lt_size x)) (hk b u x)
    have hln : H1 h'.objs.size = none := I1.hok.fresh (by rw [hsz]; exact Nat.le_add_right _ _)
    have han : ∀ b ∈ as, H1 b = none := fun b hb => I1.hok.fresh (hlo b hb)
    have old : ∀ b o, H1 b = some o → (upd (layT H1 0 as xs) h'.objs.size (.lst (as.map V.ref))) b = some o := fun b o x => by
      rw [upd_ne (ne_of_none x hln), layT_off (fun z => by rw [han b z] at x; cases x)]
      exact x
    have u : Un X.fs [] H1 (upd (layT H1 0 as xs) h'.objs.size (.lst (as.map V.ref))) s1.heap h2 := {
      keep := fun b u q _ _ _ => hkeep b u q
      slot := fun b u q _ _ _ => ⟨u.slots, hkeep b u q⟩
      free := fun b u q n _ => by
        rw [upd_ne (Nat.ne_of_lt (Nat.lt_of_lt_of_le (Heap.lt_size q) (by rw [hsz]; exact Nat.le_add_right _ _))), layT_off (fun z => Nat.lt_irrefl _ (Nat.lt_of_lt_of_le (Heap.lt_size q) (hlo b z)))]
        exact n
      there := fun b u q _ => ⟨u, hkeep b u q⟩
      tups := fun b xs q => old b _ q
      frzs := fun b u xs q => old b _ q
      tbls := fun b ps q => ⟨#[], by rw [old b _ q]; simp⟩ }
    have hok : HOk X.prog X.w (upd (layT H1 0 as xs) h'.objs.size (.lst (as.map V.ref))) h2 := fun b o x => by
      by_cases hb : b = h'.objs.size
      · subst hb
        rw [upd_same] at x
        cases x
        refine ⟨by rw [List.length_map, hlen2]; exact hz, as.map Value.ref, c, vals_refs, ?_⟩
        rw [← hacc]
        exact hS
      · rw [upd_ne hb] at x
        rcases layT_tup x with x | ⟨i, y, h1, h2', rfl⟩
        · exact (I1.hok b o x).stay (fun c v _ q => hkeep c v q) (fun c q => old c _ q) fun c xs q => old c _ q
        · obtain ⟨hj, t, ht⟩ := hG.pairs i b h1
          obtain ⟨w, hw, rw'⟩ := rv.get h2'
          have hwi : its.toArray[i] = w := by
            have := Array.getElem?_eq_getElem hj
            have h3 : its.toArray[i]? = some w := by simpa using hw
            rw [this] at h3
            exact Option.some.inj h3
          rw [hwi] at ht
          rw [Nat.zero_add]
          exact ⟨by show 2 ≤ sizeLine; decide, [.int (i : Nat) t, w], .cons ⟨_, rfl⟩ (.cons rw' .nil), ⟨_, ht, rfl, _, rfl⟩⟩
    exact ⟨.ref h'.objs.size, _, I1.un (t' := tk) u hok, rfl, q _ as hln hla hnd han hlen2⟩
end Px
set_option Elab.async false
set_option linter.all false
set_option maxRecDepth 100000
set_option maxHeartbeats 4000000
namespace Px
open PySem L2
section
variable {K : PySem.W.Frag} {σ : L2.St} {H : Hp} {ta tb tc te tl : TE} {t u : TT} {x y z v : V} {D : Ends} {s1 s2 s3 tu : TS} {n : Nat} {i j k : Int} {P R : Prop} {Q : VK}
theorem w_c (h : Q v H) : tC v σ H Q := h
theorem w_v' (e : σ[n]? = some (some v)) (h : Q v H) : tVar n σ H Q := ⟨v, e, h⟩
theorem r_add (h : Q (.int (i + j)) H) : oAdd (.int i) (.int j) H Q := ⟨_, _, rfl, rfl, h⟩
theorem r_sub (h : Q (.int (i - j)) H) : oSub (.int i) (.int j) H Q := ⟨_, _, rfl, rfl, h⟩
theorem r_mul (c : CMulW i j) (h : Q (.int (i * j)) H) : oMul (.int i) (.int j) H Q := ⟨_, _, rfl, rfl, c, h⟩
theorem r_div (c : CDivW i j) (h : Q (.int (i / j)) H) : oDiv (.int i) (.int j) H Q := ⟨_, _, rfl, rfl, c, h⟩
theorem r_mod (c : 0 < j) (h : Q (.int (i % j)) H) : oMod (.int i) (.int j) H Q := ⟨_, _, rfl, rfl, c, h⟩
theorem r_pow (c : CPow i j) (h : Q (.int (i ^ j.toNat)) H) : oPow (.int i) (.int j) H Q := ⟨_, _, rfl, rfl, c, h⟩
theorem r_lt (h : Q (.bl (decide (i < j))) H) : oLt (.int i) (.int j) H Q := ⟨_, _, rfl, rfl, h⟩
theorem r_le (h : Q (.bl (decide (i ≤ j))) H) : oLe (.int i) (.int j) H Q := ⟨_, _, rfl, rfl, h⟩
theorem r_gt (h : Q (.bl (decide (j < i))) H) : oGt (.int i) (.int j) H Q := ⟨_, _, rfl, rfl, h⟩
theorem r_ge (h : Q (.bl (decide (j ≤ i))) H) : oGe (.int i) (.int j) H Q := ⟨_, _, rfl, rfl, h⟩
theorem r_min (h : Q (.int (if j < i then j else i)) H) : cMin [.int i, .int j] H Q := ⟨_, _, rfl, h⟩
theorem r_max (h : Q (.int (if j > i then j else i)) H) : cMax [.int i, .int j] H Q := ⟨_, _, rfl, h⟩
theorem r_len {p : Addr} {xs : List V} (s : SqL K H p xs) (h : Q (.int xs.length) H) : cLen K [.ref p] H Q := ⟨p, xs, rfl, .inl s, h⟩
theorem r_intB {b : Bool} (h : Q (.int (if b then 1 else 0)) H) : cInt [.bl b] H Q := .inr ⟨b, rfl, h⟩
theorem r_ix {p : Addr} {xs : List V} (s : SqL K H p xs) (e : atI xs i = some v) (h : Q v H) : rIxL K (.ref p) (.int i) H Q := ⟨p, xs, i, v, rfl, rfl, s, e, h⟩
theorem w_sl {r : TO → TO → TE} {tl th : TO} {a : Addr} {xs : List V} {lo hi : Option Int} (h : Ev te σ H (.ref a)) (h1 : EvO tl σ H lo) (h2 : EvO th σ H hi) (hs : SqL K H a xs) (k : ∀ p, H p = none → Q (.ref p) (upd H p (.lst (cutV xs lo hi)))) : tSl (rSlL K) te tl th σ H Q := el_sl h h1 h2 hs Q k
theorem q_retN {s : TS} (h : s D σ H) : s D σ H := h
theorem q_asg {g : TG} (h : te σ H fun x H1 => g x σ H1 fun σ2 H2 => s2 D σ2 H2) : tSeq (tAsg te g) s2 D σ H := h
theorem s_asg {g : TG} (h : te σ H fun x H1 => g x σ H1 D.nx) : tAsg te g D σ H := h
theorem w_rep1 {k : Int} {b : Bool} {a : Addr} (ha : H a = some (.lst [x])) (h : ∀ p, H p = none → Q (.ref p) (upd H p (.lst (if b then [x] else [])))) : rRep (.ref a) (.int (if b then 1 else 0)) H Q := by
  refine ⟨a, _, [x], rfl, rfl, ha, ?_, ?_, ?_, fun p hp => ?_⟩
  · cases b <;> simp
  · cases b <;> simp
  · cases b <;> simp <;> decide
  · have := h p hp
    cases b <;> simpa using this
/-- [te for i in range(k)], te may change things -/
theorem w_lcR {ta : TA} {k : Int} {vs : List Nat} (h : EvA ta σ H [.int k]) (hk : 0 ≤ k ∧ k < 2 ^ 60) (Pv : Addr → Nat → Hp → Prop) (h0 : ∀ D, H D = none → Pv D 0 (upd H D (.lst [])))
    (hw : ∀ x, wipe ((wipe σ vs).set n (some x)) vs = wipe σ vs) (hs : ∀ D (i : Nat) H', H D = none → (i : Int) < k → Pv D i H' → te ((wipe σ vs).set n (some (.int (i : Int)))) H' fun y H4 => ∃ acc, H4 D = some (.lst acc) ∧ acc.length < sizeLine ∧ Pv D (i + 1) (upd H4 D (.lst (acc ++ [y]))))
    (hd : ∀ D H', H D = none → Pv D k.toNat H' → Q (.ref D) H') : tLc (iRng1 ta) (gName n) tYes te vs σ H Q := h _ ⟨k, rfl, by omega, by omega, fun D hD =>
  lc_range (lo := 0) (n := k.toNat) (Pv D) (h0 D hD) (fun i H' hi hv => by
    show wipe ((wipe σ vs).set n (some (.int (0 + (i : Int))))) vs = wipe σ vs ∧ _
    rw [Int.zero_add]
    exact ⟨hw _, et_yes _ (iteT (hs D i H' hD (by omega) hv))⟩) (fun H' hv => hd D H' hD hv)⟩
/-- [te for x in xs if tt], te may change things -/
theorem w_lcL {a : Addr} {xs : List V} {vs : List Nat} (h : Ev tl σ H (.ref a)) (hx : SqL K H a xs) (Pv : Addr → Nat → Hp → Prop) (h0 : ∀ D, H D = none → Pv D 0 (upd H D (.lst []))) (hl : ∀ D i H', H D = none → Pv D i H' → SqL K H' a xs)
    (hw : ∀ x, wipe ((wipe σ vs).set n (some x)) vs = wipe σ vs) (hs : ∀ D (i : Nat) x H', H D = none → xs[i]? = some x → Pv D i H' → t ((wipe σ vs).set n (some x)) H' fun b H3 => if b = true then te ((wipe σ vs).set n (some x)) H3 fun y H4 => ∃ acc, H4 D = some (.lst acc) ∧ acc.length < sizeLine ∧ Pv D (i + 1) (upd H4 D (.lst (acc ++ [y]))) else Pv D (i + 1) H3)
    (hd : ∀ D H', H D = none → Pv D xs.length H' → Q (.ref D) H') : tLc (iList K tl) (gName n) t te vs σ H Q := h _ ⟨a, rfl, ⟨xs, hx⟩, fun D hD =>
  lc_list (xs := xs) (Pv D) (h0 D hD) (fun i H' _ hv => hl D i H' hD hv) (fun i x H' hi hv => ⟨hw x, hs D i x H' hD hi hv⟩) (fun H' hv => hd D H' hD hv)⟩
theorem szl {m : Nat} (h : m < 16000000) : m < sizeLine := Nat.lt_of_lt_of_le h (by decide)
/-- an if without an else: I holds behind it on both ways -/
theorem q_whenI (I : L2.St → Hp → Prop) (h : EvP t σ H P) (h1 : P → ∀ N : L2.St → Hp → Prop, (∀ σ' H', I σ' H' → N σ' H') → s1 { D with nx := N } σ H) (h2 : ¬ P → I σ H) (k : ∀ σ' H', I σ' H' → s3 D σ' H') : tSeq (tIfS t s1 tNext) s3 D σ H :=
  q_whenP h (fun p => h1 p _ k) fun p => k _ _ (h2 p)
theorem s_ifW (h : t σ H fun b H1 => if b = true then s1 D σ H1 else s2 D σ H1) : tIfS t s1 s2 D σ H := h
theorem q_ifW (h : t σ H fun b H1 => if b = true then s1 { D with nx := s3 D } σ H1 else s2 { D with nx := s3 D } σ H1) : tSeq (tIfS t s1 s2) s3 D σ H := h
theorem w_and {Q : Bool → Hp → Prop} (h : t σ H fun b H1 => if b = true then u σ H1 Q else Q false H1) : tAnd t u σ H Q := h
theorem w_or {Q : Bool → Hp → Prop} (h : t σ H fun b H1 => if b = true then Q true H1 else u σ H1 Q) : tOr t u σ H Q := h
theorem w_not {Q : Bool → Hp → Prop} (h : t σ H fun b H1 => Q (!b) H1) : tNot t σ H Q := h
theorem w_tst {Q : Bool → Hp → Prop} (h : te σ H fun v H1 => ∃ b, v = .bl b ∧ Q b H1) : tTest te σ H Q := h
theorem w_evT {b : Bool} {Q : Bool → Hp → Prop} (h : EvT t σ H b) (q : Q b H) : t σ H Q := h Q q
theorem by_dec {P A B : Prop} [Decidable P] (h1 : P → A) (h2 : ¬ P → B) : if decide P = true then A else B := by
  by_cases h : P
  · rw [decide_eq_true h]; exact iteT (h1 h)
  · rw [decide_eq_false h]; exact iteF (h2 h)
theorem q_par {i j : Nat} {ta : TA} {v w : V} (h : EvA ta σ H [v, w]) (k : s2 D ((σ.set i (some v)).set j (some w)) H) : tSeq (tPar i j ta) s2 D σ H := h _ ⟨v, w, rfl, k⟩
theorem q_parW {i j : Nat} {ta : TA} (h : ta σ H fun vs H1 => ∃ v w, vs = [v, w] ∧ s2 D ((σ.set i (some v)).set j (some w)) H1) : tSeq (tPar i j ta) s2 D σ H := h
theorem w_appR {a : Addr} {xs : List V} {t : TA} (ha : Ev ta σ H (.ref a)) (hx : SqL K H a xs) (ht : t σ H fun vs H2 => rAppend (.ref a) vs H2 Q) : tBM K "list" rAppend ta t σ H Q := ha _ ⟨.inl ⟨rfl, _, hx⟩, ht⟩
theorem w_revR {a : Addr} {xs : List V} (ha : Ev ta σ H (.ref a)) (hx : SqL K H a xs) (h : rReverse (.ref a) [] H Q) : tBM0 K "list" rReverse ta σ H Q := ha _ ⟨.inl ⟨rfl, _, hx⟩, h⟩
theorem w_andV (h : ta σ H fun x H1 => ∃ c, x = .bl c ∧ if c = true then tb σ H1 Q else Q (.bl false) H1) : tAndV ta tb σ H Q := h
theorem w_orV (h : ta σ H fun x H1 => ∃ c, x = .bl c ∧ if c = true then Q (.bl true) H1 else tb σ H1 Q) : tOrV ta tb σ H Q := h
end
end Px
set_option Elab.async false
set_option linter.all false
set_option maxRecDepth 100000
set_option maxHeartbeats 4000000
namespace Px
open PySem L2
/-! ### own classes -/
def clsBody (s : Stmt) : List Stmt := match s with
  | .ClassDef _ _ _ b _ _ _ _ _ _ _ => b
  | _ => []
abbrev FnQ (K : PySem.W.Frag) (x qual : Str) (st : Stmt) (f : Addr) (fd : FuncData) : Prop := FunD K x qual (defArgs st) (defBody st) (defScope st) [] [] f fd
/-- a method of the class at C -/
structure Mfn (P : Program) (w : World) (K : PySem.W.Frag) (mg : Str → Option Value) (base : Heap) (C : Addr) (m : Str) (k : Nat) (ps : List Str) (sp : Sp) : Prop where
  ex : ∃ (f : Addr) (fd : FuncData), FnOk P w K mg base CX0 k f fd ps sp ∧ Meth K C m f ∧ Binds K fd ps []
structure Ifn (P : Program) (w : World) (K : PySem.W.Frag) (mg : Str → Option Value) (base : Heap) (C : Addr) (k : Nat) (ps : List Str) (sp : Sp) : Prop where
  ex : ∃ (f : Addr) (fd : FuncData), FnOk P w K mg base CX0 k f fd ps sp ∧ L2.Mk K C f ∧ Binds K fd ps []
section
variable {X : Cx} {C : Addr} {m x : Str} {k : Nat} {ps : List Str} {sp : Sp} {o e : Expr} {es : List Expr} {ta : TE} {t : TA} {apos pos p : Pos}
theorem pe_mth {pl : Sem Bool} (F : Mfn X.prog X.w X.K X.mg X.base C m k ps sp) (c : Cls X.K C) (hr : Room k X.A) (he : PE X o ta) (ha : PA X (e :: es) t)
    (hst : starEach (e :: es) X.env = (false, eval e X.env) :: starEach es X.env := by rfl) (hpl : (backTo pos (starEach es X.env)).any (·.1) = false := by rfl)
    (ht : eval (.Call (.Attribute o m apos) (e :: es) [] pos) X.env = (do
      let ov ← eval o X.env
      standAt apos.atName
      let (f, first) ← holding [ov] (getMethod ov m pl)
      callWith pos f first (backTo pos (starEach (e :: es) X.env)) (backToKw pos (keywordEach [] X.env))) := by rfl) :
    PE X (.Call (.Attribute o m apos) (e :: es) [] pos) (tMeth C m sp [] E0 ta t) := by
  obtain ⟨f, fd, F1, M, b⟩ := F.ex
  exact pe_meth he c M F1 hr b .nil pass0 ha hst hpl ht
theorem pe_mth0 {pl : Sem Bool} (F : Mfn X.prog X.w X.K X.mg X.base C m k ps sp) (c : Cls X.K C) (hr : Room k X.A) (he : PE X o ta)
    (ht : eval (.Call (.Attribute o m apos) [] [] pos) X.env = (do
      let ov ← eval o X.env
      standAt apos.atName
      let (f, first) ← holding [ov] (getMethod ov m pl)
      callWith pos f first (backTo pos (starEach [] X.env)) (backToKw pos (keywordEach [] X.env))) := by rfl) :
    PE X (.Call (.Attribute o m apos) [] [] pos) (tMeth C m sp [] E0 ta tNil) := by
  obtain ⟨f, fd, F1, M, b⟩ := F.ex
  exact pe_meth0 he c M F1 hr b .nil pass0 ht
theorem pe_mk (F : Ifn X.prog X.w X.K X.mg X.base C k ps sp) (hr : Room (k + 1) X.A) (hm : X.mg x = some (.ref C)) (ha : PA X (e :: es) t) (hg : Gl X x := by rfl)
    (hdb : (x == ("__debug__" : Str)) = false := by decide) (he : starEach (e :: es) X.env = (false, eval e X.env) :: starEach es X.env := by rfl) (hpl : (backTo pos (starEach es X.env)).any (·.1) = false := by rfl) :
    PE X (.Call (.Name x p) (e :: es) [] pos) (tMake C sp [] E0 t) := by
  obtain ⟨f, fd, F1, M, b⟩ := F.ex
  exact pe_make M F1 hr hg hm b .nil pass0 ha hdb he hpl
end
section
variable {K : PySem.W.Frag} {σ : L2.St} {B H H' : Hp} {L : List (Addr × List V)} {ta te : TE} {t : TA} {x C dx : Addr} {fs fs' : List (Str × V)} {f m : Str} {v : V} {Q : VK} {D : Ends} {s2 : TS}
theorem ev_fld (c : Cls K C) (n : NoAttr K C f) (h : Ev ta σ H (.ref x)) (e : H x = some (.ins C dx fs)) (l : fs.lookup f = some v) : Ev (tFld K ta f) σ H v := fun Q q => h _ ⟨x, C, dx, fs, v, rfl, e, c, n, l, q⟩
theorem q_fld (c : Cls K C) (n : NoAttr K C f) (hv : Ev te σ H v) (h : Ev ta σ H (.ref x)) (e : H x = some (.ins C dx fs)) (hl : fs.length < 1000) (k : s2 D σ (upd H x (.ins C dx (putF f v fs)))) : tSeq (sFld K ta te f) s2 D σ H := hv _ (h _ ⟨x, C, dx, fs, rfl, e, c, n, hl, k⟩)
theorem s_fld (c : Cls K C) (n : NoAttr K C f) (hv : Ev te σ H v) (h : Ev ta σ H (.ref x)) (e : H x = some (.ins C dx fs)) (hl : fs.length < 1000) (k : D.nx σ (upd H x (.ins C dx (putF f v fs)))) : sFld K ta te f D σ H := hv _ (h _ ⟨x, C, dx, fs, rfl, e, c, n, hl, k⟩)
theorem q_fldL {xs : List V} (c : Cls K C) (n : NoAttr K C f) (hv : EvL te σ H xs) (h : ∀ p, H p = none → Ev ta σ (upd H p (.lst xs)) (.ref x)) (e : H x = some (.ins C dx fs)) (hl : fs.length < 1000) (k : ∀ p, H p = none → s2 D σ (upd (upd H p (.lst xs)) x (.ins C dx (putF f (.ref p) fs)))) : tSeq (sFld K ta te f) s2 D σ H :=
  hv _ fun p hp => h p hp _ ⟨x, C, dx, fs, rfl, by rw [upd_ne (ne_of_none e hp)]; exact e, c, n, hl, k p hp⟩
theorem w_mth {sp : Sp} (h : Ev ta σ H (.ref x)) (e : H x = some (.ins C dx fs)) (l : fs.lookup m = none) (k : t σ H fun vs H2 => sp (.ref x :: (vs ++ [])) H2 Q E0) : tMeth C m sp [] E0 ta t σ H Q := h _ ⟨x, dx, fs, rfl, e, l, k⟩
theorem w_mk {sp : Sp} (k : t σ H fun vs H1 => ∀ x dx, H1 x = none → H1 dx = none → dx ≠ x → sp (.ref x :: (vs ++ [])) (upd (upd H1 dx (.own x)) x (.ins C dx [])) (fun v H2 => v = .non ∧ Q (.ref x) H2) E0) : tMake C sp [] E0 t σ H Q := k
/-- an instance of the base is changed -/
theorem Own.fput (o : Own B L H) (h : B x = some (.ins C dx fs)) : Own (upd B x (.ins C dx fs')) L (upd H x (.ins C dx fs')) where
  nod := have := o.nod; inferInstance
  ex := fun b u hb => by
    by_cases e : b = x
    · subst e; rw [upd_same] at hb ⊢; exact hb
    · rw [upd_ne e] at hb ⊢; exact o.ex b u hb
  off := fun q hq => by
    have : q.1 ≠ x := fun e => by have := o.off q hq; rw [e, h] at this; cases this
    rw [upd_ne this]; exact o.off q hq
  dis := o.dis
  has := fun q hq => by
    have : q.1 ≠ x := fun e => by have := o.off q hq; rw [e, h] at this; cases this
    rw [upd_ne this]; exact o.has q hq
/-- anything flat and new is part of the base -/
theorem Own.newB {u : HO} {p : Addr} (o : Own B L H) (hp : H p = none) (n : Nod (upd H p u)) : Own (upd B p u) L (upd H p u) where
  nod := n
  ex := fun b w hb => by
    by_cases e : b = p
    · subst e; rw [upd_same] at hb ⊢; exact hb
    · rw [upd_ne e] at hb ⊢; exact o.ex b w hb
  off := fun q hq => by rw [upd_ne (ne_of_none (o.has q hq) hp)]; exact o.off q hq
  dis := o.dis
  has := fun q hq => by rw [upd_ne (ne_of_none (o.has q hq) hp)]; exact o.has q hq
end
/-! ### what a method leaves -/
theorem fg_ins {H H' : Hp} {x C dx : Addr} {fs fs' : List (Str × V)} [n : Nod H] (hx : H x = some (.ins C dx fs)) (e : ∀ a u, a ≠ x → H a = some u → H' a = some u) (h : H' x = some (.ins C dx fs')) : Fg H H' (upd H x (.ins C dx fs')) where
  sub := fun a o q => by
    by_cases z : a = x
    · subst z; rw [upd_same] at q; rw [h]; exact q
    · rw [upd_ne z] at q; exact e a o z q
  old := fun a o q => by
    by_cases z : a = x
    · subst z; rw [upd_same, h]
    · rw [upd_ne z, q]; exact (e a o z q).symm
  own := fun a y q => e a _ (fun z => by rw [z, hx] at q; cases q) q
  ins := fun a C' dx' fs'' q => by
    by_cases z : a = x
    · subst z; rw [upd_same] at q; cases q; exact ⟨fs, hx⟩
    · rw [upd_ne z] at q; exact ⟨_, q⟩
  frz := fun a o u q => by
    by_cases z : a = x
    · subst z; rw [upd_same] at q; cases q
    · rw [upd_ne z] at q; exact q
  nod := fun a o q => by
    by_cases z : a = x
    · subst z; rw [upd_same] at q; cases q; trivial
    · rw [upd_ne z] at q; exact n.nod a o q
theorem fg_insL {H H' : Hp} {x C dx p : Addr} {fs fs' : List (Str × V)} {xs : List V} [n : Nod H] (hx : H x = some (.ins C dx fs)) (hp : H p = none) (e : ∀ a u, a ≠ x → H a = some u → H' a = some u) (h : H' x = some (.ins C dx fs')) (h2 : H' p = some (.lst xs)) : Fg H H' (upd (upd H p (.lst xs)) x (.ins C dx fs')) := by
  have hxp : x ≠ p := ne_of_none hx hp
  exact {
    sub := fun a o q => by
      by_cases z : a = x
      · subst z; rw [upd_same] at q; rw [h]; exact q
      · rw [upd_ne z] at q
        by_cases y : a = p
        · subst y; rw [upd_same] at q; rw [h2]; exact q
        · rw [upd_ne y] at q; exact e a o z q
    old := fun a o q => by
      by_cases z : a = x
      · subst z; rw [upd_same, h]
      · rw [upd_ne z, upd_ne (ne_of_none q hp), q]; exact (e a o z q).symm
    own := fun a y q => e a _ (fun z => by rw [z, hx] at q; cases q) q
    ins := fun a C' dx' fs'' q => by
      by_cases z : a = x
      · subst z; rw [upd_same] at q; cases q; exact ⟨fs, hx⟩
      · rw [upd_ne z] at q
        by_cases y : a = p
        · subst y; rw [upd_same] at q; cases q
        · rw [upd_ne y] at q; exact ⟨_, q⟩
    frz := fun a o u q => by
      by_cases z : a = x
      · subst z; rw [upd_same] at q; cases q
      · rw [upd_ne z] at q
        by_cases y : a = p
        · subst y; rw [upd_same] at q; cases q
        · rw [upd_ne y] at q; exact q
    nod := fun a o q => by
      by_cases z : a = x
      · subst z; rw [upd_same] at q; cases q; trivial
      · rw [upd_ne z] at q
        by_cases y : a = p
        · subst y; rw [upd_same] at q; cases q; trivial
        · rw [upd_ne y] at q; exact n.nod a o q }
end Px
set_option Elab.async false
set_option linter.all false
set_option maxRecDepth 100000
set_option maxHeartbeats 4000000
namespace Px
open PySem PySem.Spec PyProof.Rows L2
/-! ### exceptions that are kept behind their clause -/
/-- an exception of the own class at D, as a thing of the heap -/
def excH (a D : Addr) : HO := .ext fun h => ∃ oe, PySem.W.InstAt h a oe D none
theorem exc_inst {h : Heap} {a D : Addr} {oe : Obj} (hg : h.get? a = some oe) (hz : Zc (.ref D) none oe) (hf : ∃ vs, oe.data = .fields vs) : PySem.W.InstAt h a oe D none := by
  obtain ⟨vs, hv⟩ := hf
  obtain ⟨oc, od, oda, osl⟩ := oe
  obtain ⟨h1, h2⟩ := hz
  dsimp only at h1 h2 hv
  subst h1 h2 hv
  exact ⟨hg, rfl, rfl, trivial⟩
theorem exc_ok {P : Program} {w : World} {H : Hp} {h : Heap} {a D : Addr} {oe : Obj} (hg : h.get? a = some oe) (hz : Zc (.ref D) none oe) (hf : ∃ vs, oe.data = .fields vs) : ObjOk P w H h a (excH a D) :=
  ⟨⟨oe, exc_inst hg hz hf⟩, ⟨oe, hg⟩, fun h1 h2 ⟨o, i⟩ k => by
    obtain ⟨i1, i2, i3, i4⟩ := i
    refine ⟨o, ⟨k o i1, i2, i3, ?_⟩⟩
    cases hd : o.dict with
    | none => trivial
    | some dx => rw [hd] at i4; exact i4.elim⟩
section
variable {X : Cx} {pins : List (Addr × Obj)} {σ : L2.St} {H : Hp} {s : Shared}
/-- a thing of the heap is tracked from now on -/
theorem Inv.adopt {a : Addr} {u : HO} (I : Inv X pins σ H s) (h0 : X.s_0.heap.get? a = none) (na : H a = none) (nL : a ≠ X.env.locals) (nC : ∀ x c, X.env.cells.lookup x = some c → c ≠ a) (hp : ∀ p ∈ X.pn ++ pins, p.1 ≠ a) (ok : ObjOk X.prog X.w (upd H a u) s.heap a u) : Inv X pins σ (upd H a u) s := by
  have ne : ∀ b o, H b = some o → b ≠ a := fun b o e z => by rw [z, na] at e; cases e
  have up : ∀ b o, H b = some o → upd H a u b = some o := fun b o e => by rw [upd_ne (ne b o e)]; exact e
  refine ⟨I.ok, I.os, I.bare, ⟨I.base.keep, I.base.slot, fun b o e n hx => ?_, I.base.there, fun b xs e => up _ _ (I.base.tups b xs e), fun b o u' e => up _ _ (I.base.frzs b o u' e), fun b ps e => ?_⟩, I.loc, I.cell, ?_, fun x c e => ?_, fun p hp' => ?_, fun b o e => ?_, I.len⟩
  · rw [upd_ne (fun z => by rw [z, h0] at e; cases e)]
    exact I.base.free b o e n hx
  · obtain ⟨more, e2⟩ := I.base.tbls b ps e
    exact ⟨more, up _ _ e2⟩
  · rw [upd_ne (Ne.symm nL)]; exact I.free
  · rw [upd_ne (nC x c e)]; exact I.freeC x c e
  · obtain ⟨h1, h2, h3⟩ := I.pin p hp'
    exact ⟨h1, by rw [upd_ne (hp p hp')]; exact h2, h3⟩
  · by_cases z : b = a
    · subst z
      rw [upd_same] at e
      cases e
      exact ok
    · rw [upd_ne z] at e
      exact (I.hok b o e).stay (fun c w' hc q => q) (fun y q => up _ _ q) fun y z q => up _ _ q
/-- what a try wishes whose clause keeps the exception: slot i is the clause's name -/
def wKeep (K : PySem.W.Frag) (c : Value) (i : Nat) (ts : Addr → TS) (Wout : WX) (D : Ends) : WX := fun cls d σ H =>
  ∃ b, PySem.W.exmOne K cls c = some b ∧ (b = true → ∃ C, cls = .ref C ∧ d = none ∧ ∀ a, H a = none → ts a { nx := fun σ' H' => D.nx (σ'.set i none) (upd H' a (excH a C)), rt := fun _ _ => False, bk := fun _ _ => False, ct := fun _ _ => False } (σ.set i (some (.ref a))) H) ∧
    (b = false → Wout cls d σ H)
end
section
variable {X : Cx} {x n : Str} {c : Value} {i : Nat} {body suite : List Stmt} {b₀ : Stmt} {np pos pos' : Pos} {tb : WX → TS} {ts : Addr → TS} {Wout : WX}
theorem ps_try_keep (hs : X.stack = X.env :: X.outer) (hf : X.env.frame = some X.env.locals) (hex : X.ex = []) (hcl : ∀ x c, X.env.cells.lookup x = some c → False) (hN : X.N.Nodup) (hi : X.N[i]? = some n) (hln : X.env.kindOf n = some .local) (hc : Names X x c) (tk : Takes X Wout)
    (hb : ∀ (W : WX) (pn : List (Addr × Obj)) (xe : Value → Shared → Prop), Takes (X.tr pn xe) W → PassesOwn (model X.prog X.w) X.A X.env xe → PSs (X.tr pn xe) body (tb W))
    (hsu : ∀ (a : Addr) (pn : List (Addr × Obj)), PSs (X.suite a pn) (b₀ :: suite) (ts a)) :
    PS X (.Try body [.ExceptHandler (some (.Name x np)) (some n) (b₀ :: suite) pos'] [] [] pos) (fun D σ H => tb (wKeep X.K c i ts Wout D) D σ H) := by
  refine ⟨fun pins s σ H D I h => ?_⟩
  have ok := I.ok
  have hfr : X.A.frames = some (X.env :: X.outer) := by rw [ok.frames, hs]
  have hloc : Loc X.env.scope n := .inl hln
  refine wpAny_Try_except ?_
  refine wpAny_mono ((hb (wKeep X.K c i ts Wout D) (X.pn ++ pins) (fun e s₁ => wpAny (model X.prog X.w) X.A (noteFrame e X.env) (fun _ s₂ => wpAny (model X.prog X.w) X.A (setFlight e none) (fun _ s₃ =>
    wpAny (model X.prog X.w) X.A (handleBy e X.env [.ExceptHandler (some (.Name x np)) (some n) (b₀ :: suite) pos']) (SP X pins D) X.xe s₃) X.xe s₂) X.xe s₁) (fun u s' xx => ?_) PassesOwn.looking).run [] s σ H D (I.toTry _) h) (fun f s1 hsp => ?_) (fun e s1 he => he)
  · -- the catch
    obtain ⟨a, B, sI, pins', σ', H', cls, d, rfl, J', nb, up, sky, na, os, ag, b, hb1, hyes, hno⟩ := xx
    have J : Inv X pins σ' H' sI := J'.ofTry ok
    have sky' : Sky B (X.env :: X.outer) a (Zc cls d) X.env.locals s'.heap := by rw [← hs]; exact sky
    show wpAny (model X.prog X.w) X.A (noteFrame (.ref a) X.env) _ _ _
    refine Sky.land Zc.steady hfr hf sky' fun h3 fl3 up3 => ?_
    have J3 : Inv X pins σ' H' { s' with heap := h3 } := J.landed nb fl3.1 (up.trans up3) os ag
    obtain ⟨oe3, vs3, he3, hz3, hd3⟩ := fl3.there
    have notFr : ∀ {h : Heap} {o : Obj} {vs : Array Value}, h.FunFrames B (X.env :: X.outer) → h.get? a = some o → o.data = .fields vs → a ∉ frs (X.env :: X.outer) := fun {h o vs} ff e dd hm => by
      obtain ⟨_, o', e', hnf⟩ := ff.mem hm
      rw [e] at e'; cases e'
      exact hnf _ dd
    have nfr := notFr fl3.2.2.1 he3 hd3
    have nL : a ≠ X.env.locals := fun z => nfr (List.mem_filterMap.mpr ⟨X.env, List.mem_cons_self, by rw [hf, z]⟩)
    have nF : a ∉ X.fs := fun hm => by
      obtain ⟨e, he, q⟩ := List.mem_filterMap.mp hm
      exact nfr (List.mem_filterMap.mpr ⟨e, List.mem_cons_of_mem _ he, q⟩)
    have hnew : X.s_0.heap.get? a = none := by
      cases e0 : X.s_0.heap.get? a with
      | none => rfl
      | some o0 =>
        obtain ⟨o1, e1⟩ := J.base.there a o0 e0 (by rw [hex]; exact List.not_mem_nil)
        have e2 := nb a o1 e1 (by rw [hs]; exact nfr)
        rw [fl3.2.1] at e2
        cases e2
    have hInone : sI.heap.get? a = none := by
      cases e1 : sI.heap.get? a with
      | none => rfl
      | some o1 =>
        have e2 := nb a o1 e1 (by rw [hs]; exact nfr)
        rw [fl3.2.1] at e2
        cases e2
    have hpn : ∀ p ∈ X.pn ++ pins, p.1 ≠ a := fun p hp z => by
      have := (J.pin p hp).1
      rw [z, hInone] at this
      cases this
    have S3 := J3.suite he3 hd3 na nL nF
    refine wpAny_handleBy_cons (codeAny_handlers_test ?_) (by intro q; cases q)
    have LT : PySem.W.Looks (model X.prog X.w) h3 (typeOf (.ref a)) cls := fun A Q E s k q => wpAny_typeOf_ref (k _ _ he3) (by rw [hz3.1]; exact q)
    have LM := PySem.W.exm_one (M := model X.prog X.w) (J3.kIn) LT hb1
    have test : ∀ {Q : Value → Shared → Prop} {E : Value → Shared → Prop}, Q c { s' with heap := h3 } → wpAny (model X.prog X.w) (X.A.mark (some (.ref a))) (eval (.Name x np) X.env) Q E { s' with heap := h3 } := fun {Q E} q => by
      obtain ⟨hg, hdbg, hm | ⟨hm, hv, hnn⟩⟩ := hc
      · exact ld_glob (X := X.suite a ((a, oe3) :: (X.pn ++ pins))) S3 hg hm q hdbg
      · exact ld_blt (X := X.suite a ((a, oe3) :: (X.pn ++ pins))) S3 hg hm hv q hnn hdbg
    refine test (LM.here ?_)
    cases b with
    | true =>
      obtain ⟨C, rfl, rfl, hy2⟩ := hyes rfl
      refine codeAny_handlers_suite_as ?_
      refine HandSPX.lands_againZ fl3 fun h4 fl4 up4 => ?_
      have J4 : Inv X pins σ' H' { s' with heap := h4 } := J.landed nb fl4.1 ((up.trans up3).trans up4) os ag
      obtain ⟨oe4, vs4, he4, hz4, hd4⟩ := fl4.there
      have S4 := J4.suite he4 hd4 na nL nF
      refine store_ok (X := X.suite a ((a, oe4) :: (X.pn ++ pins))) (v := .ref a) S4 hN hi hloc rfl (fun s5 S5 => ?_) (.inr hln)
      refine wpAny_mono ((hsu a ((a, oe4) :: (X.pn ++ pins))).run [] s5 _ H' _ S5 (hy2 a na)) (fun f s6 hsp => ?_) (fun _ _ z => False.elim z)
      cases f with
      | next =>
        obtain ⟨σ6, H6, S6, q6⟩ := hsp
        have S7 : Inv X ((a, oe4) :: pins) σ6 H6 s6 := ⟨ok, S6.os, S6.bare, S6.base, S6.loc, S6.cell, S6.free, S6.freeC, fun p hp => S6.pin p (List.mem_append_left _ (by
          rcases List.mem_append.mp hp with z | z
          · exact List.mem_cons_of_mem _ (List.mem_append_left _ z)
          · rcases List.mem_cons.mp z with z | z
            · rw [z]; exact List.mem_cons_self
            · exact List.mem_cons_of_mem _ (List.mem_append_right _ z))), S6.hok, S6.len⟩
        refine gone_ok (Q := fun _ s7 => SP X pins D .next s7) S7 hN hi hln fun s7 J7 => ?_
        obtain ⟨g1, g2, g3, g4, g5⟩ := J7.pin (a, oe4) (List.mem_append_right _ List.mem_cons_self)
        have J8 : Inv X pins (σ6.set i none) H6 s7 := J7.pins_of fun p hp => J7.pin p (List.mem_append_right _ (List.mem_cons_of_mem _ hp))
        refine ⟨_, _, Inv.adopt J8 hnew g2 g3 (fun y c e => (hcl y c e).elim) hpn (exc_ok g1 hz4 ⟨_, hd4⟩), q6⟩
      | brk => obtain ⟨_, _, _, q6⟩ := hsp; exact q6.elim
      | cont => obtain ⟨_, _, _, q6⟩ := hsp; exact q6.elim
      | ret u => obtain ⟨_, _, _, _, _, q6⟩ := hsp; exact q6.elim
    | false =>
      show wpAny _ X.A (handleBy (.ref a) X.env []) _ _ _
      refine wpAny_handleBy_nil ?_
      obtain ⟨k1, k2, k3, oe, vs, T, oT, ts', he, hz, hd, h1, hr⟩ := id fl3
      unfold PySem.passOn
      refine wpAny_bind (wpAny_field he hd h1 ?_)
      rw [if_neg (show ¬ ((Value.ref T == Value.none) = true) from by simp)]
      have fin : wpAny (model X.prog X.w) X.A (setFlight (.ref a) X.env.frame) (fun _ s4 => wpAny (model X.prog X.w) X.A (throw (.ref a) : Sem Flow) (SP X pins D) X.xe s4) X.xe { s' with heap := h3 } := by
        rw [hf]
        refine HandSPX.setFlight_upZ fl3 fun h4 hh4 up4 => wpAny_throw (tk _ _ ?_)
        exact ⟨a, B, sI, pins, σ', H', cls, d, rfl, J, nb, (up.trans up3).trans up4, .inr (.inr (by rw [hs]; exact hh4)), na, os, ag, hno rfl⟩
      first
        | exact wpAny_bind (wpAny_pure (wpAny_bind fin))
        | exact wpAny_bind fin
  · cases f with
    | next =>
      obtain ⟨σ', H', J', q⟩ := hsp
      exact wpAny_execs_nil ⟨σ', H', J'.ofTry ok, q⟩
    | brk =>
      obtain ⟨σ', H', J', q⟩ := hsp
      exact ⟨σ', H', J'.ofTry ok, q⟩
    | cont =>
      obtain ⟨σ', H', J', q⟩ := hsp
      exact ⟨σ', H', J'.ofTry ok, q⟩
    | ret u =>
      obtain ⟨v, σ', H', J', r, q⟩ := hsp
      exact ⟨v, σ', H', J'.ofTry ok, r, q⟩
end
/-! ### isinstance of a kept exception -/
/-- isinstance(e, c) -/
def rIsX (K : PySem.W.Frag) : List V → Hp → VK → Prop := fun xs H Q => ∃ (a D : Addr) (c : V) (u : Value) (b : Bool), xs = [.ref a, c] ∧ H a = some (excH a D) ∧ ExcC K D ∧ ClsV c u ∧ PySem.W.kitOne K (.ref D) u = some b ∧ Q (.bl b) H
/-- isinstance(e, (c1, c2, ..)) -/
def rIsXT (K : PySem.W.Frag) : List V → Hp → VK → Prop := fun xs H Q => ∃ (a D tp : Addr) (cs : List V) (us : List Value) (b : Bool), xs = [.ref a, .ref tp] ∧ H a = some (excH a D) ∧ ExcC K D ∧ H tp = some (.tup cs) ∧ Paired ClsV cs us ∧ PySem.W.kitAny K (.ref D) us = some b ∧ Q (.bl b) H
section
variable {X : Cx}
theorem call_isX : CallR X (.builtin "isinstance") (rIsX X.K) := by
  intro pins s σ H xs us Q I r h
  obtain ⟨a, D, c, u, b, rfl, ha, C, k, e, q⟩ := h
  obtain ⟨u1, u2, rfl, r1, r2⟩ := vals2 r
  have e2 := k.eq r2
  subst e2
  cases (show u1 = Value.ref a from r1)
  obtain ⟨⟨oe, J⟩, _⟩ := (show ObjOk X.prog X.w H s.heap a (excH a D) from I.hok a _ ha)
  exact PySem.W.kia_one (PySem.W.handS_kitx_exc C.hg C.hk C.hs C.hd C.ha C.hn C.ht C.hm) I.kIn J e (fun z => nomatch z) fun tk => ⟨.bl b, H, I.tok tk, rfl, q⟩
theorem call_isXT : CallR X (.builtin "isinstance") (rIsXT X.K) := by
  intro pins s σ H xs us Q I r h
  obtain ⟨a, D, tp, cs, ws, b, rfl, ha, C, hT, k, e, q⟩ := h
  obtain ⟨u1, u2, rfl, r1, r2⟩ := vals2 r
  cases (show u2 = Value.ref tp from r2)
  cases (show u1 = Value.ref a from r1)
  obtain ⟨⟨oe, J⟩, _⟩ := (show ObjOk X.prog X.w H s.heap a (excH a D) from I.hok a _ ha)
  obtain ⟨_, its, rv, o, h1, h2, n, h3⟩ := (show ObjOk X.prog X.w H s.heap tp (.tup cs) from I.hok tp _ hT)
  have e3 := ClsV.all k rv
  subst e3
  obtain ⟨oc, od, dt, sl⟩ := o
  simp only at h2 h3
  subst h2 h3
  exact PySem.W.kia_tup (PySem.W.handS_kitx_exc C.hg C.hk C.hs C.hd C.ha C.hn C.ht C.hm) I.kIn J h1 e (fun z => nomatch z) fun tk => ⟨.bl b, H, I.tok tk, rfl, q⟩
end
/-! ### defs that may raise -/
structure FnX (P : Program) (w : World) (K : PySem.W.Frag) (mg : Str → Option Value) (base : Heap) (x : Str) (k : Nat) (ps : List Str) (sp : Sp) : Prop where
  ex : ∃ (f : Addr) (fd : FuncData), FnOk P w K mg base (L2.CX P w) k f fd ps sp ∧ mg x = some (.ref f) ∧ PySem.W.keepIn K (.ref f) = true ∧ Binds K fd ps []
section
variable {X : Cx} {k : Nat} {ps : List Str} {sp : Sp} {x : Str} {p pos : Pos} {e : Expr} {es : List Expr} {t : TA} {W : WX}
/-- in a try, or in a def that lets it out -/
theorem pe_fnX (F : FnX X.prog X.w X.K X.mg X.base x k ps sp) (hr : Room k X.A) (tk : Takes X W) (ha : PA X (e :: es) t) (hg : Gl X x := by rfl)
    (hdb : (x == ("__debug__" : Str)) = false := by decide) (he : starEach (e :: es) X.env = (false, eval e X.env) :: starEach es X.env := by rfl) (hpl : (backTo pos (starEach es X.env)).any (·.1) = false := by rfl) :
    PE X (.Call (.Name x p) (e :: es) [] pos) (tCallS sp (WE W) t) := by
  obtain ⟨f, fd, F1, g, kp, b⟩ := F.ex
  exact pe_callS F1 hr hg g kp b (passAt tk) ha hdb he hpl
/-- where nothing is raised -/
theorem pe_fnX0 (F : FnX X.prog X.w X.K X.mg X.base x k ps sp) (hr : Room k X.A) (ha : PA X (e :: es) t) (hg : Gl X x := by rfl)
    (hdb : (x == ("__debug__" : Str)) = false := by decide) (he : starEach (e :: es) X.env = (false, eval e X.env) :: starEach es X.env := by rfl) (hpl : (backTo pos (starEach es X.env)).any (·.1) = false := by rfl) :
    PE X (.Call (.Name x p) (e :: es) [] pos) (tCall sp [] E0 t) := by
  obtain ⟨f, fd, F1, g, kp, b⟩ := F.ex
  exact pe_call F1 hr hg g kp b .nil (fun _ _ _ _ _ _ _ ⟨_, _, _, _, _, _, _, _, _, _, _, _, z⟩ => z.elim) ha hdb he hpl
/-- raise C('..') -/
def tRaise (C : Addr) (W : WX) : TS := fun _ σ H => W (.ref C) none σ H
structure ExM (K : PySem.W.Frag) (C : Addr) : Prop where
  q : PySem.W.excIn K C He.veBase "ValueError.__new__" = true
  kp : PySem.W.keepIn K (.ref C) = true
  sb : PySem.W.subIn K (.ref C) (.type "BaseException") = some true
  ty : PySem.W.typeIn K (.ref C) = some (.type "type")
theorem ps_rai {C : Addr} {m : Str} {j : Nat} {p p2 pos pos' : Pos} (M : ExM X.K C) (g : X.mg x = some (.ref C)) (hc : X.calm = true) (tk : Takes X W) (hg : Gl X x := by rfl) (hdb : (x == ("__debug__" : Str)) = false := by decide) :
    PS X (.Raise (some (.Call (.Name x p) [.Constant (.str m) j p2] [] pos)) none pos') (tRaise C W) :=
  ps_raise hc tk (pmk_own PySem.F.excBase_ValueError M.q g M.kp (raises_own M.sb M.ty) hg hdb)
end
end Px
set_option Elab.async false
set_option linter.all false
set_option maxRecDepth 100000
namespace Px
open PySem L2
/-! ### the program's own exceptions -/
def five : List Str := ["NoPrimes", "NoPlace", "NoNumber", "NoText", "NoCommand"]
def excB (K : PySem.W.Frag) (D : Addr) : Bool :=
  He.eqO (PySem.W.findIn K (.ref D) "__getattribute__") (some (some (.builtin "BaseException.__getattribute__"))) && (He.eqO (PySem.W.findIn K (.ref D) "__getattr__") (some none) && (decide (PySem.W.subIn K (.ref D) (.type "BaseException") = some true) && (PySem.W.hasDictIn K D &&
  (He.eqO (PySem.W.findIn K (.ref D) "__class__") (some (some (.builtin "object.__class__"))) && (He.eqO (PySem.W.specialIn K (.builtin "object.__class__") "__get__") (some (some (.builtin "getset_descriptor.__get__"))) && (decide (PySem.W.takesIn K (.builtin "object.__class__") = some true) && decide (PySem.W.mroIn K D (.type "object") = some true)))))))
theorem excB_ok {K : PySem.W.Frag} {D : Addr} (h : excB K D = true) : ExcC K D := by
  unfold excB at h
  obtain ⟨h1, h⟩ := He.ba h
  obtain ⟨h2, h⟩ := He.ba h
  obtain ⟨h3, h⟩ := He.ba h
  obtain ⟨h4, h⟩ := He.ba h
  obtain ⟨h5, h⟩ := He.ba h
  obtain ⟨h6, h⟩ := He.ba h
  obtain ⟨h7, h8⟩ := He.ba h
  exact ⟨He.eqO_ok h1, He.eqO_ok h2, of_decide_eq_true h3, h4, He.eqO_ok h5, He.eqO_ok h6, of_decide_eq_true h7, of_decide_eq_true h8⟩
def oneB (K : PySem.W.Frag) (x : Str) : Bool :=
  (He.Fa.exc x).ok K && (excB K (He.ga K x) && (decide (PySem.W.exmOne K (.ref (He.ga K x)) (.ref (He.ga K "PartError")) = some true) && (decide (PySem.W.kitOne K (.ref (He.ga K x)) (.type "ValueError") = some true) && five.all fun y => decide (PySem.W.kitOne K (.ref (He.ga K x)) (.ref (He.ga K y)) = some (decide (x = y))))))
def errB (K : PySem.W.Frag) : Bool := five.all fun x => oneB K x
structure ErrAt (K : PySem.W.Frag) (x : Str) : Prop where
  em : ExM K (He.ga K x)
  ec : ExcC K (He.ga K x)
  part : PySem.W.exmOne K (.ref (He.ga K x)) (.ref (He.ga K "PartError")) = some true
  val : PySem.W.kitOne K (.ref (He.ga K x)) (.type "ValueError") = some true
  kit : ∀ y ∈ five, PySem.W.kitOne K (.ref (He.ga K x)) (.ref (He.ga K y)) = some (decide (x = y))
def Errs (K : PySem.W.Frag) : Prop := ∀ x ∈ five, ErrAt K x
theorem errB_ok {K : PySem.W.Frag} (h : errB K = true) : Errs K := fun x hx => by
  have h := List.all_eq_true.mp h x hx
  obtain ⟨h1, h⟩ := He.ba h
  obtain ⟨h2, h⟩ := He.ba h
  obtain ⟨h3, h⟩ := He.ba h
  obtain ⟨h4, h5⟩ := He.ba h
  obtain ⟨a, b, c, d⟩ := He.exc_ok h1
  exact ⟨⟨a, b, c, d⟩, excB_ok h2, of_decide_eq_true h3, of_decide_eq_true h4, fun y hy => of_decide_eq_true (List.all_eq_true.mp h5 y hy)⟩
/-! ### what the top has left, with these -/
abbrev AlX : Type := AlL × Bool
def obsX (n : Nat) (fa : List He.Fa) (fn : List He.DefD) (ls : List (Str × List He.Dv)) (g : Addr → Option Obj) : AlX :=
  (obsL n fa fn ls g, errB (He.frG g (He.asD g n)))
def hookX (n : Nat) (fa : List He.Fa) (fn : List He.DefD) (ls : List (Str × List He.Dv)) : PySem.W.Hook where
  α := AlX
  obs := fun s => obsX n fa fn ls s.heap.get?
  val := fun _ => ((He.valD fn, true), true)
  says := fun _ h => ∃ K : PySem.W.Frag, K.In h ∧ He.SaysD fa fn K ∧ (ls.all fun q => He.lstB K q.1 q.2) = true ∧ errB K = true
  of := fun _ _ e => ⟨_, He.frG_in, congrArg (fun z : AlX => z.1.1) e, congrArg (fun z : AlX => z.1.2) e, congrArg (fun z : AlX => z.2) e⟩
  keeps := fun _ _ _ ⟨K, hK, c1, c2, c3⟩ k => ⟨K, PySem.W.Frag.In.keeps hK k, c1, c2, c3⟩
theorem obsX_eq {n : Nat} {fa : List He.Fa} {fn : List He.DefD} {ls : List (Str × List He.Dv)} {g : Addr → Option Obj} {s : Shared} (h : ∀ a, g a = s.heap.get? a) : obsX n fa fn ls g = (hookX n fa fn ls).obs s := by
  have e : g = s.heap.get? := funext h
  subst e; rfl
/-! ### the try of a law -/
def tTryK (K : PySem.W.Frag) (c : Value) (i : Nat) (tb : WX → TS) (ts : Addr → TS) : TS := fun D σ H => tb (wKeep K c i ts (fun _ _ _ _ => False) D) D σ H
theorem ps_tryk {X : Cx} {x n : Str} {c : Value} {i : Nat} {body suite : List Stmt} {b₀ : Stmt} {np pos pos' : Pos} {tb : WX → TS} {ts : Addr → TS} (hs : X.stack = X.env :: X.outer) (hf : X.env.frame = some X.env.locals) (hex : X.ex = []) (hcl : ∀ x c, X.env.cells.lookup x = some c → False) (hN : X.N.Nodup) (hi : X.N[i]? = some n) (hln : X.env.kindOf n = some .local) (hc : Names X x c)
    (hb : ∀ (W : WX) (pn : List (Addr × Obj)) (xe : Value → Shared → Prop), Takes (X.tr pn xe) W → PassesOwn (model X.prog X.w) X.A X.env xe → PSs (X.tr pn xe) body (tb W))
    (hsu : ∀ (a : Addr) (pn : List (Addr × Obj)), PSs (X.suite a pn) (b₀ :: suite) (ts a)) :
    PS X (.Try body [.ExceptHandler (some (.Name x np)) (some n) (b₀ :: suite) pos'] [] [] pos) (tTryK X.K c i tb ts) :=
  ps_try_keep hs hf hex hcl hN hi hln hc (fun u s' ⟨_, _, _, _, _, _, _, _, _, _, _, _, _, _, _, _, z⟩ => z.elim) hb hsu
/-- the body lets one of the five out, and it is caught and kept -/
theorem w_tryk {K : PySem.W.Frag} {i : Nat} {tb : WX → TS} {ts : Addr → TS} {D : Ends} {σ : L2.St} {H : Hp} (h : tb (wKeep K (.ref (He.ga K "PartError")) i ts (fun _ _ _ _ => False) D) D σ H) : tTryK K (.ref (He.ga K "PartError")) i tb ts D σ H := h
theorem w_caught {K : PySem.W.Frag} (hX : Errs K) {x : Str} (hx : x ∈ five) {i : Nat} {ts : Addr → TS} {Wout : WX} {D : Ends} {σ : L2.St} {H : Hp} (k : ∀ a, H a = none → ts a { nx := fun σ' H' => D.nx (σ'.set i none) (upd H' a (excH a (He.ga K x))), rt := fun _ _ => False, bk := fun _ _ => False, ct := fun _ _ => False } (σ.set i (some (.ref a))) H) :
    wKeep K (.ref (He.ga K "PartError")) i ts Wout D (.ref (He.ga K x)) none σ H := ⟨true, (hX x hx).part, fun _ => ⟨_, rfl, rfl, k⟩, fun z => nomatch z⟩
end Px
set_option linter.all false
set_option maxHeartbeats 1000000
namespace MA
/-! ### numbers made of some primes -/
inductive Mk (row : List Nat) : Nat → Prop
  | one : Mk row 1
  | mul {p n : Nat} : p ∈ row → Mk row n → Mk row (p * n)
theorem mk_mono {r r' : List Nat} (h : ∀ p ∈ r, p ∈ r') {n : Nat} (m : Mk r n) : Mk r' n := by
  induction m with
  | one => exact .one
  | mul hp _ ih => exact .mul (h _ hp) ih
theorem mk_congr {r r' : List Nat} (h : ∀ p, p ∈ r ↔ p ∈ r') {n : Nat} : Mk r n ↔ Mk r' n := ⟨mk_mono fun p => (h p).mp, mk_mono fun p => (h p).mpr⟩
theorem mk_times {r : List Nat} {a b : Nat} (h : Mk r a) (g : Mk r b) : Mk r (a * b) := by
  induction h with
  | one => rw [Nat.one_mul]; exact g
  | mul hp _ ih => rw [Nat.mul_assoc]; exact .mul hp ih
theorem mk_pow {r : List Nat} {p : Nat} (h : p ∈ r) (k : Nat) : Mk r (p ^ k) := by
  induction k with
  | zero => exact .one
  | succ k ih => rw [Nat.pow_succ, Nat.mul_comm]; exact .mul h ih
theorem mk_self {r : List Nat} {p : Nat} (h : p ∈ r) : Mk r p := by
  have := mk_pow h 1
  rwa [Nat.pow_one] at this
theorem mk_nil {n : Nat} (h : Mk [] n) : n = 1 := by
  cases h with
  | one => rfl
  | mul hp _ => cases hp
theorem mk_cons {p : Nat} {r : List Nat} {n : Nat} : Mk (p :: r) n ↔ ∃ k m, n = m * p ^ k ∧ Mk r m := by
  constructor
  · intro h
    induction h with
    | one => exact ⟨0, 1, rfl, .one⟩
    | mul hq _ ih =>
      obtain ⟨k, m, rfl, hm⟩ := ih
      rcases List.mem_cons.mp hq with rfl | hq
      · exact ⟨k + 1, m, by rw [Nat.pow_succ]; simp only [Nat.mul_assoc, Nat.mul_comm, Nat.mul_left_comm], hm⟩
      · exact ⟨k, _ * m, by rw [Nat.mul_assoc], .mul hq hm⟩
  · rintro ⟨k, m, rfl, hm⟩
    exact mk_times (mk_mono (fun _ h => List.mem_cons_of_mem _ h) hm) (mk_pow List.mem_cons_self k)
structure Good (row : List Nat) : Prop where
  ge : ∀ p ∈ row, 2 ≤ p
  cop : row.Pairwise Nat.Coprime
theorem Good.tail {p : Nat} {r : List Nat} (g : Good (p :: r)) : Good r := ⟨fun q h => g.ge q (List.mem_cons_of_mem _ h), (List.pairwise_cons.mp g.cop).2⟩
theorem Good.head {p : Nat} {r : List Nat} (g : Good (p :: r)) : 2 ≤ p := g.ge p List.mem_cons_self
theorem Good.off {p : Nat} {r : List Nat} (g : Good (p :: r)) : ∀ q ∈ r, Nat.Coprime p q := (List.pairwise_cons.mp g.cop).1
theorem good_nil : Good [] := ⟨fun _ h => (List.not_mem_nil h).elim, List.Pairwise.nil⟩
theorem Good.sub {r r' : List Nat} (g : Good r') (h : r.Sublist r') : Good r := ⟨fun p hp => g.ge p (h.subset hp), g.cop.sublist h⟩
theorem Good.perm {r r' : List Nat} (g : Good r') (h : r.Perm r') : Good r := ⟨fun p hp => g.ge p (h.mem_iff.mp hp), (h.pairwise_iff (fun z => Nat.Coprime.symm z)).mpr g.cop⟩
theorem mk_pos {r : List Nat} (g : ∀ p ∈ r, 2 ≤ p) {n : Nat} (h : Mk r n) : 0 < n := by
  induction h with
  | one => exact Nat.one_pos
  | mul hp _ ih => exact Nat.mul_pos (by have := g _ hp; omega) ih
theorem cop_mk {p : Nat} {r : List Nat} (h : ∀ q ∈ r, Nat.Coprime p q) {m : Nat} (hm : Mk r m) : Nat.Coprime p m := by
  induction hm with
  | one => exact Nat.coprime_one_right p
  | mul hq _ ih => exact Nat.Coprime.mul_right (h _ hq) ih
theorem cop_ndvd {p m : Nat} (hp : 2 ≤ p) (h : Nat.Coprime p m) : ¬ p ∣ m := fun z => by
  have : Nat.gcd p m = p := Nat.gcd_eq_left z
  have h1 : Nat.gcd p m = 1 := h
  omega
theorem Good.ndvd {p : Nat} {r : List Nat} (g : Good (p :: r)) {m : Nat} (hm : Mk r m) : ¬ p ∣ m := cop_ndvd g.head (cop_mk g.off hm)
theorem split_eq {p : Nat} (hp : 2 ≤ p) : ∀ {k k' m m' : Nat}, ¬ p ∣ m → ¬ p ∣ m' → m * p ^ k = m' * p ^ k' → k = k' ∧ m = m'
  | 0, 0, m, m', _, _, e => ⟨rfl, by simpa using e⟩
  | 0, k + 1, m, m', h, _, e => by
    rw [Nat.pow_zero, Nat.mul_one, Nat.pow_succ, ← Nat.mul_assoc] at e
    exact absurd ⟨m' * p ^ k, by rw [e, Nat.mul_comm]⟩ h
  | k + 1, 0, m, m', _, h, e => by
    rw [Nat.pow_zero, Nat.mul_one, Nat.pow_succ, ← Nat.mul_assoc] at e
    exact absurd ⟨m * p ^ k, by rw [← e, Nat.mul_comm]⟩ h
  | k + 1, k' + 1, m, m', h, h', e => by
    rw [Nat.pow_succ, Nat.pow_succ, ← Nat.mul_assoc, ← Nat.mul_assoc] at e
    have := split_eq hp h h' (Nat.eq_of_mul_eq_mul_right (by omega) e)
    exact ⟨by omega, this.2⟩
/-- a divisor that is one of the primes is made, too -/
theorem Good.div {r : List Nat} : ∀ (g : Good r) {n p : Nat}, p ∈ r → Mk r n → p ∣ n → Mk r (n / p) := by
  intro g n p hp hn hd
  have h1 : r.Perm (p :: r.erase p) := List.perm_cons_erase hp
  have g1 : Good (p :: r.erase p) := g.perm h1.symm
  have hn1 : Mk (p :: r.erase p) n := (mk_congr fun q => h1.mem_iff).mp hn
  obtain ⟨k, m, rfl, hm⟩ := mk_cons.mp hn1
  cases k with
  | zero => rw [Nat.pow_zero, Nat.mul_one] at hd; exact absurd hd (g1.ndvd hm)
  | succ k =>
    rw [Nat.pow_succ, ← Nat.mul_assoc, Nat.mul_div_cancel _ (by have := g1.head; omega)]
    exact (mk_congr fun q => h1.mem_iff).mpr (mk_cons.mpr ⟨k, m, rfl, hm⟩)
theorem Good.div_iff {r : List Nat} (g : Good r) {n p : Nat} (hp : p ∈ r) : Mk r (n * p) ↔ Mk r n := by
  have h2 := g.ge p hp
  constructor
  · intro h
    have := g.div hp h ⟨n, Nat.mul_comm _ _⟩
    rwa [Nat.mul_div_cancel _ (by omega)] at this
  · intro h; rw [Nat.mul_comm]; exact .mul hp h
/-- each but 1 is a prime times one of them -/
theorem mk_step {r : List Nat} {n : Nat} (h : Mk r n) (h1 : n ≠ 1) : ∃ p ∈ r, ∃ m, n = p * m ∧ Mk r m := by
  cases h with
  | one => exact absurd rfl h1
  | mul hp hm => exact ⟨_, hp, _, rfl, hm⟩
/-! ### taking primes out -/
def strip (p n : Nat) : Nat := if h : 2 ≤ p ∧ 0 < n ∧ n % p = 0 then strip p (n / p) else n
termination_by n
decreasing_by exact Nat.div_lt_self h.2.1 (by omega)
def stripAll : List Nat → Nat → Nat
  | [], n => n
  | p :: r, n => stripAll r (strip p n)
theorem strip_yes {p n : Nat} (h1 : 2 ≤ p) (h2 : 0 < n) (h3 : n % p = 0) : strip p n = strip p (n / p) := by rw [strip, dif_pos ⟨h1, h2, h3⟩]
theorem strip_no {p n : Nat} (h3 : n % p ≠ 0) : strip p n = n := by rw [strip, dif_neg (fun h => h3 h.2.2)]
theorem strip_spec {p : Nat} (hp : 2 ≤ p) : ∀ n, 0 < n → ∃ k, n = strip p n * p ^ k ∧ ¬ p ∣ strip p n ∧ 0 < strip p n := by
  intro n
  induction n using Nat.strongRecOn with
  | ind n ih =>
    intro hn
    by_cases h : n % p = 0
    · obtain ⟨k, e, h1, h2⟩ := ih (n / p) (Nat.div_lt_self hn (by omega)) (Nat.div_pos (Nat.le_of_dvd hn (Nat.dvd_of_mod_eq_zero h)) (by omega))
      rw [strip_yes hp hn h]
      refine ⟨k + 1, ?_, h1, h2⟩
      rw [Nat.pow_succ, ← Nat.mul_assoc, ← e, Nat.div_mul_cancel (Nat.dvd_of_mod_eq_zero h)]
    · rw [strip_no h]
      exact ⟨0, by simp, fun z => h (Nat.mod_eq_zero_of_dvd z), hn⟩
theorem stripAll_iff : ∀ {r : List Nat} (g : Good r) {n : Nat}, 0 < n → (stripAll r n = 1 ↔ Mk r n)
  | [], _, n, _ => ⟨fun h => by have h : n = 1 := h
                                rw [h]; exact .one, fun h => mk_nil h⟩
  | p :: r, g, n, hn => by
    obtain ⟨k, e, h1, h2⟩ := strip_spec g.head n hn
    show stripAll r (strip p n) = 1 ↔ _
    rw [stripAll_iff g.tail h2, mk_cons]
    constructor
    · intro h; exact ⟨k, _, e, h⟩
    · rintro ⟨k', m, e', hm⟩
      have := (split_eq g.head h1 (g.ndvd hm) (e.symm.trans e')).2
      rw [this]; exact hm
theorem stripAll_pos {r : List Nat} (g : ∀ p ∈ r, 2 ≤ p) : ∀ {n : Nat}, 0 < n → 0 < stripAll r n := by
  induction r with
  | nil => intro n h; exact h
  | cons p r ih =>
    intro n h
    obtain ⟨_, _, _, h2⟩ := strip_spec (g p List.mem_cons_self) n h
    exact ih (fun q hq => g q (List.mem_cons_of_mem _ hq)) h2
/-! ### lists without repetition -/
theorem perm_of {l l' : List Nat} (h : l.Nodup) (h' : l'.Nodup) (e : ∀ n, n ∈ l ↔ n ∈ l') : l.Perm l' := by
  rw [List.perm_iff_count]
  intro a
  rw [h.count, h'.count]
  by_cases z : a ∈ l
  · rw [if_pos z, if_pos ((e a).mp z)]
  · rw [if_neg z, if_neg (fun y => z ((e a).mpr y))]
theorem len_le {l : List Nat} : ∀ {m : List Nat}, l.Nodup → (∀ n ∈ l, n ∈ m) → l.length ≤ m.length := by
  induction l with
  | nil => intro m _ _; simp
  | cons a l ih =>
    intro m nd hs
    have ha := hs a List.mem_cons_self
    have h1 : l.length ≤ (m.erase a).length := ih (List.nodup_cons.mp nd).2 fun n hn => by
      have hne : n ≠ a := fun z => (List.nodup_cons.mp nd).1 (z ▸ hn)
      exact (List.mem_erase_of_ne hne).mpr (hs n (List.mem_cons_of_mem _ hn))
    rw [List.length_erase_of_mem ha] at h1
    have : 0 < m.length := List.length_pos_of_mem ha
    simp only [List.length_cons]
    omega
theorem pair_nodup {l : List Nat} (h : l.Pairwise (· < ·)) : l.Nodup := h.imp fun z => Nat.ne_of_lt z
theorem eq_of_pair {l l' : List Nat} (h : l.Pairwise (· < ·)) (h' : l'.Pairwise (· < ·)) (e : ∀ n, n ∈ l ↔ n ∈ l') : l = l' :=
  (perm_of (pair_nodup h) (pair_nodup h') e).eq_of_pairwise (fun a b _ _ h1 h2 => by omega) (h.imp Nat.le_of_lt) (h'.imp Nat.le_of_lt)
/-! ### all of them to a bound -/
def IsAll (row : List Nat) (b : Nat) (l : List Nat) : Prop := l.Nodup ∧ ∀ n, n ∈ l ↔ Mk row n ∧ n ≤ b
theorem IsAll.perm {row l l' : List Nat} {b : Nat} (h : IsAll row b l) (h' : IsAll row b l') : l.Perm l' := perm_of h.1 h'.1 fun n => (h.2 n).trans (h'.2 n).symm
theorem IsAll.of_perm {row l l' : List Nat} {b : Nat} (h : IsAll row b l) (p : l'.Perm l) : IsAll row b l' := ⟨p.nodup_iff.mpr h.1, fun n => p.mem_iff.trans (h.2 n)⟩
theorem IsAll.congr {r r' l : List Nat} {b : Nat} (e : ∀ p, p ∈ r ↔ p ∈ r') (h : IsAll r b l) : IsAll r' b l := ⟨h.1, fun n => (h.2 n).trans (and_congr_left fun _ => mk_congr e)⟩
theorem all_zero {row : List Nat} (g : ∀ p ∈ row, 2 ≤ p) : IsAll row 0 [] := ⟨List.Pairwise.nil, fun n => ⟨fun h => (List.not_mem_nil h).elim, fun h => by have := mk_pos g h.1; have := h.2; omega⟩⟩
theorem all_nil {b : Nat} (h : 0 < b) : IsAll [] b [1] := ⟨by simp, fun n => ⟨fun z => by rw [List.mem_singleton.mp z]; exact ⟨.one, h⟩, fun z => by rw [mk_nil z.1]; exact List.mem_singleton.mpr rfl⟩⟩
open Classical in
noncomputable def allL (row : List Nat) (b : Nat) : List Nat := (List.range (b + 1)).filter fun n => @decide (Mk row n) (Classical.propDecidable _)
noncomputable def cnt (row : List Nat) (b : Nat) : Nat := (allL row b).length
open Classical in
theorem allL_mem {row : List Nat} {b n : Nat} : n ∈ allL row b ↔ Mk row n ∧ n ≤ b := by
  unfold allL
  rw [List.mem_filter, List.mem_range, decide_eq_true_eq]
  constructor
  · rintro ⟨h1, h2⟩; exact ⟨h2, by omega⟩
  · rintro ⟨h1, h2⟩; exact ⟨by omega, h1⟩
theorem allL_pair (row : List Nat) (b : Nat) : (allL row b).Pairwise (· < ·) := List.pairwise_lt_range.sublist List.filter_sublist
theorem allL_is (row : List Nat) (b : Nat) : IsAll row b (allL row b) := ⟨pair_nodup (allL_pair row b), fun _ => allL_mem⟩
theorem IsAll.len {row l : List Nat} {b : Nat} (h : IsAll row b l) : l.length = cnt row b := (h.perm (allL_is row b)).length_eq
theorem IsAll.eq {row l : List Nat} {b : Nat} (h : IsAll row b l) (p : l.Pairwise (· < ·)) : l = allL row b := eq_of_pair p (allL_pair row b) fun n => (h.2 n).trans allL_mem.symm
theorem cnt_le {row l : List Nat} {b : Nat} (nd : l.Nodup) (h : ∀ n ∈ l, Mk row n ∧ n ≤ b) : l.length ≤ cnt row b := len_le nd fun n hn => allL_mem.mpr (h n hn)
theorem cnt_congr {r r' : List Nat} {b : Nat} (e : ∀ p, p ∈ r ↔ p ∈ r') : cnt r b = cnt r' b := ((allL_is r b).congr e).len
theorem allL_congr {r r' : List Nat} {b : Nat} (e : ∀ p, p ∈ r ↔ p ∈ r') : allL r b = allL r' b := ((allL_is r b).congr e).eq (allL_pair _ _)
theorem cnt_zero {row : List Nat} (g : ∀ p ∈ row, 2 ≤ p) : cnt row 0 = 0 := ((all_zero g).len).symm
open Classical in
theorem allL_succ_yes {row : List Nat} {b : Nat} (h : Mk row (b + 1)) : allL row (b + 1) = allL row b ++ [b + 1] := by
  unfold allL
  rw [List.range_succ, List.filter_append]
  congr 1
  rw [List.filter_cons, if_pos (by simpa using h)]; rfl
open Classical in
theorem allL_succ_no {row : List Nat} {b : Nat} (h : ¬ Mk row (b + 1)) : allL row (b + 1) = allL row b := by
  unfold allL
  rw [List.range_succ, List.filter_append]
  rw [List.filter_cons, if_neg (by simpa using h)]; simp
theorem cnt_yes {row : List Nat} {b : Nat} (h : Mk row (b + 1)) : cnt row (b + 1) = cnt row b + 1 := by unfold cnt; rw [allL_succ_yes h]; simp
theorem cnt_no {row : List Nat} {b : Nat} (h : ¬ Mk row (b + 1)) : cnt row (b + 1) = cnt row b := by unfold cnt; rw [allL_succ_no h]
theorem cnt_mono {row : List Nat} {a b : Nat} (h : a ≤ b) : cnt row a ≤ cnt row b := len_le (allL_is row a).1 fun n hn => by
  have := allL_mem.mp hn
  exact allL_mem.mpr ⟨this.1, by omega⟩
theorem cnt_row {r r' : List Nat} {b : Nat} (h : ∀ p ∈ r, p ∈ r') : cnt r b ≤ cnt r' b := len_le (allL_is r b).1 fun n hn => by
  have := allL_mem.mp hn
  exact allL_mem.mpr ⟨mk_mono h this.1, this.2⟩
/-- none between: as many -/
theorem cnt_gap {row : List Nat} {a b : Nat} (h : a ≤ b) (g : ∀ n, a < n → n ≤ b → ¬ Mk row n) : cnt row b = cnt row a := by
  obtain ⟨d, rfl⟩ := Nat.exists_eq_add_of_le h
  clear h
  induction d with
  | zero => rfl
  | succ d ih =>
    rw [← Nat.add_assoc, cnt_no (g _ (by omega) (by omega))]
    exact ih fun n h1 h2 => g n h1 (by omega)
theorem allL_gap {row : List Nat} {a b : Nat} (h : a ≤ b) (g : ∀ n, a < n → n ≤ b → ¬ Mk row n) : allL row b = allL row a := by
  obtain ⟨d, rfl⟩ := Nat.exists_eq_add_of_le h
  clear h
  induction d with
  | zero => rfl
  | succ d ih =>
    rw [← Nat.add_assoc, allL_succ_no (g _ (by omega) (by omega))]
    exact ih fun n h1 h2 => g n h1 (by omega)
theorem cnt_pos {row : List Nat} {b : Nat} (h : 0 < b) : 0 < cnt row b := List.length_pos_of_mem (allL_mem.mpr ⟨.one, h⟩)
/-- strictly more behind one that is made -/
theorem cnt_lt {row : List Nat} {a b : Nat} (h : a < b) (hb : Mk row b) : cnt row a < cnt row b := by
  cases b with
  | zero => omega
  | succ b =>
    rw [cnt_yes hb]
    have := cnt_mono (row := row) (a := a) (b := b) (by omega)
    omega
/-- the list behind one prime more: it is what it was, and its own numbers times the prime -/
theorem grow {r L F : List Nat} {p b : Nat} (g : Good (p :: r)) (h0 : IsAll r b L) (nd : F.Nodup) (hM : ∀ y ∈ F, Mk (p :: r) y ∧ y ≤ b) (hL : ∀ y ∈ L, y ∈ F) (hF : ∀ x ∈ F, x * p ≤ b → x * p ∈ F) : IsAll (p :: r) b F := by
  refine ⟨nd, fun n => ⟨hM n, ?_⟩⟩
  rintro ⟨h, hb⟩
  obtain ⟨k, m, rfl, hm⟩ := mk_cons.mp h
  clear h
  induction k with
  | zero =>
    rw [Nat.pow_zero, Nat.mul_one] at hb ⊢
    exact hL _ ((h0.2 m).mpr ⟨hm, hb⟩)
  | succ k ih =>
    rw [Nat.pow_succ, ← Nat.mul_assoc] at hb ⊢
    have h1 : m * p ^ k ≤ m * p ^ k * p := Nat.le_mul_of_pos_right _ (by have := g.head; omega)
    exact hF _ (ih (by omega)) hb
/-! ### the powers from a number on -/
def pwl (p b x : Nat) : List Nat := if h : 2 ≤ p ∧ 0 < x ∧ x ≤ b then x :: pwl p b (x * p) else []
termination_by b + 1 - x
decreasing_by
  have : x * 2 ≤ x * p := Nat.mul_le_mul_left x h.1
  omega
theorem pwl_yes {p b x : Nat} (h1 : 2 ≤ p) (h2 : 0 < x) (h3 : x ≤ b) : pwl p b x = x :: pwl p b (x * p) := by rw [pwl, dif_pos ⟨h1, h2, h3⟩]
theorem pwl_no {p b x : Nat} (h3 : b < x) : pwl p b x = [] := by rw [pwl, dif_neg (by omega)]
theorem pwl_mem {p b x : Nat} (hp : 2 ≤ p) (hx : 0 < x) : ∀ {y}, y ∈ pwl p b x ↔ ∃ k, y = x * p ^ k ∧ y ≤ b := by
  induction x using pwl.induct p b with
  | case1 x h ih =>
    intro y
    rw [pwl_yes h.1 h.2.1 h.2.2, List.mem_cons, ih (Nat.mul_pos hx (by omega))]
    constructor
    · rintro (rfl | ⟨k, rfl, hk⟩)
      · exact ⟨0, by simp, h.2.2⟩
      · exact ⟨k + 1, by rw [Nat.pow_succ]; simp only [Nat.mul_assoc, Nat.mul_comm, Nat.mul_left_comm], hk⟩
    · rintro ⟨k, rfl, hk⟩
      cases k with
      | zero => exact .inl (by simp)
      | succ k => exact .inr ⟨k, by rw [Nat.pow_succ]; simp only [Nat.mul_assoc, Nat.mul_comm, Nat.mul_left_comm], hk⟩
  | case2 x h =>
    intro y
    rw [pwl, dif_neg h]
    constructor
    · intro z; cases z
    · rintro ⟨k, rfl, hk⟩
      have : x * 1 ≤ x * p ^ k := Nat.mul_le_mul_left x (Nat.pow_pos (by omega))
      omega
theorem pwl_ge {p b x : Nat} : ∀ {y}, y ∈ pwl p b x → x ≤ y := by
  induction x using pwl.induct p b with
  | case1 x h ih =>
    intro y hy
    rw [pwl_yes h.1 h.2.1 h.2.2, List.mem_cons] at hy
    rcases hy with rfl | hy
    · exact Nat.le_refl _
    · have := ih hy
      have h2 : x * 2 ≤ x * p := Nat.mul_le_mul_left x h.1
      omega
  | case2 x h => intro y hy; rw [pwl, dif_neg h] at hy; cases hy
theorem pwl_pair {p b x : Nat} : (pwl p b x).Pairwise (· < ·) := by
  induction x using pwl.induct p b with
  | case1 x h ih =>
    rw [pwl_yes h.1 h.2.1 h.2.2]
    refine List.pairwise_cons.mpr ⟨fun y hy => ?_, ih⟩
    have h1 := pwl_ge hy
    have h2 : x * 2 ≤ x * p := Nat.mul_le_mul_left x h.1
    omega
  | case2 x h => rw [pwl, dif_neg h]; exact .nil
theorem pwl_len {p b : Nat} (hp : 2 ≤ p) : ∀ {k x : Nat}, 0 < x → b < x * p ^ k → (pwl p b x).length ≤ k := by
  intro k
  induction k with
  | zero => intro x _ h; rw [Nat.pow_zero, Nat.mul_one] at h; rw [pwl_no h]; simp
  | succ k ih =>
    intro x hx h
    by_cases hb : x ≤ b
    · rw [pwl_yes hp hx hb, List.length_cons]
      have := ih (x := x * p) (Nat.mul_pos hx (by omega)) (by rw [Nat.pow_succ] at h; rw [Nat.mul_assoc, Nat.mul_comm p]; exact h)
      omega
    · rw [pwl_no (by omega)]; simp
theorem nodup_flat {f : Nat → List Nat} : ∀ {L : List Nat}, L.Nodup → (∀ x ∈ L, (f x).Nodup) → (∀ x ∈ L, ∀ y ∈ L, x ≠ y → ∀ z ∈ f x, z ∉ f y) → (L.flatMap f).Nodup
  | [], _, _, _ => by simp
  | a :: L, nd, h1, h2 => by
    rw [List.flatMap_cons, List.nodup_append]
    have nd' := List.nodup_cons.mp nd
    refine ⟨h1 a List.mem_cons_self, nodup_flat nd'.2 (fun x hx => h1 x (List.mem_cons_of_mem _ hx)) (fun x hx y hy => h2 x (List.mem_cons_of_mem _ hx) y (List.mem_cons_of_mem _ hy)), fun z hz w hw e => ?_⟩
    subst e
    obtain ⟨y, hy, hz'⟩ := List.mem_flatMap.mp hw
    exact h2 a List.mem_cons_self y (List.mem_cons_of_mem _ hy) (fun e => nd'.1 (e ▸ hy)) z hz hz'
/-- one prime more, each with all its powers -/
theorem IsAll.flat {r L : List Nat} {p b : Nat} (g : Good (p :: r)) (h : IsAll r b L) : IsAll (p :: r) b (L.flatMap (pwl p b)) := by
  have hp := g.head
  have pos : ∀ x ∈ L, 0 < x := fun x hx => mk_pos g.tail.ge ((h.2 x).mp hx).1
  refine ⟨nodup_flat h.1 (fun x _ => pair_nodup pwl_pair) (fun x hx y hy ne z hz hz' => ?_), fun n => ?_⟩
  · obtain ⟨k, e1, _⟩ := (pwl_mem hp (pos x hx)).mp hz
    obtain ⟨k', e2, _⟩ := (pwl_mem hp (pos y hy)).mp hz'
    exact ne (split_eq hp (g.ndvd ((h.2 x).mp hx).1) (g.ndvd ((h.2 y).mp hy).1) (e1.symm.trans e2)).2
  · rw [List.mem_flatMap, mk_cons]
    constructor
    · rintro ⟨x, hx, hn⟩
      obtain ⟨k, e, hb⟩ := (pwl_mem hp (pos x hx)).mp hn
      exact ⟨⟨k, x, e, ((h.2 x).mp hx).1⟩, hb⟩
    · rintro ⟨⟨k, m, e, hm⟩, hb⟩
      have hm0 := mk_pos g.tail.ge hm
      have : m * 1 ≤ m * p ^ k := Nat.mul_le_mul_left m (Nat.pow_pos (by omega))
      have hL : m ∈ L := (h.2 m).mpr ⟨hm, by omega⟩
      exact ⟨m, hL, (pwl_mem hp hm0).mpr ⟨k, e, hb⟩⟩
theorem cnt_sum {r L : List Nat} {p b : Nat} (g : Good (p :: r)) (h : IsAll r b L) : cnt (p :: r) b = (L.map fun x => (pwl p b x).length).sum := by
  rw [← (h.flat g).len, List.length_flatMap]
theorem sum_le {f : Nat → Nat} {k : Nat} : ∀ {L : List Nat}, (∀ x ∈ L, f x ≤ k) → (L.map f).sum ≤ L.length * k
  | [], _ => by simp
  | a :: L, h => by
    rw [List.map_cons, List.sum_cons, List.length_cons, Nat.add_mul]
    have := sum_le fun x hx => h x (List.mem_cons_of_mem _ hx)
    have := h a List.mem_cons_self
    omega
theorem cnt_box {r : List Nat} {p b k : Nat} (g : Good (p :: r)) (h : b < p ^ k) : cnt (p :: r) b ≤ cnt r b * k := by
  rw [cnt_sum g (allL_is r b)]
  refine sum_le fun x hx => ?_
  have h0 := mk_pos g.tail.ge (allL_mem.mp hx).1
  refine pwl_len g.head h0 ?_
  have : 1 * p ^ k ≤ x * p ^ k := Nat.mul_le_mul_right _ h0
  omega
theorem cnt_nil {b : Nat} : cnt [] b ≤ 1 := by
  cases b with
  | zero => rw [cnt_zero (fun _ h => (List.not_mem_nil h).elim)]; omega
  | succ b => rw [← (all_nil (b := b + 1) (by omega)).len]; simp
/-- by a prime: those without it, and as many as to what it leaves of the bound -/
theorem cnt_split {r : List Nat} {p b : Nat} (g : Good (p :: r)) : cnt (p :: r) b = cnt r b + cnt (p :: r) (b / p) := by
  have hp := g.head
  have h1 : IsAll (p :: r) b (allL r b ++ (allL (p :: r) (b / p)).map (· * p)) := by
    refine ⟨?_, fun n => ?_⟩
    · rw [List.nodup_append]
      refine ⟨(allL_is _ _).1, ?_, fun a ha c hc e => ?_⟩
      · exact List.pairwise_map.mpr ((allL_is (p :: r) (b / p)).1.imp fun ne e => ne (Nat.eq_of_mul_eq_mul_right (by omega) e))
      · subst e
        obtain ⟨x, _, e⟩ := List.mem_map.mp hc
        exact g.ndvd (allL_mem.mp ha).1 ⟨x, by rw [← e, Nat.mul_comm]⟩
    · rw [List.mem_append, List.mem_map, allL_mem]
      constructor
      · rintro (⟨h1, h2⟩ | ⟨x, hx, rfl⟩)
        · exact ⟨mk_mono (fun _ z => List.mem_cons_of_mem _ z) h1, h2⟩
        · obtain ⟨h1, h2⟩ := allL_mem.mp hx
          exact ⟨by show Mk _ (x * p); rw [Nat.mul_comm]; exact .mul List.mem_cons_self h1, (Nat.le_div_iff_mul_le (by omega)).mp h2⟩
      · rintro ⟨h1, h2⟩
        obtain ⟨k, m, rfl, hm⟩ := mk_cons.mp h1
        cases k with
        | zero => rw [Nat.pow_zero, Nat.mul_one] at h2 ⊢; exact .inl ⟨hm, h2⟩
        | succ k =>
          rw [Nat.pow_succ, ← Nat.mul_assoc] at h2 ⊢
          exact .inr ⟨m * p ^ k, allL_mem.mpr ⟨mk_cons.mpr ⟨k, m, rfl, hm⟩, (Nat.le_div_iff_mul_le (by omega)).mpr h2⟩, rfl⟩
  rw [← h1.len, List.length_append, List.length_map]
  rfl
/-! ### next and last -/
structure IsNext (row : List Nat) (n m : Nat) : Prop where
  made : Mk row m
  gt : n < m
  le : ∀ k, Mk row k → n < k → m ≤ k
structure IsLast (row : List Nat) (n m : Nat) : Prop where
  made : Mk row m
  lt : m < n
  ge : ∀ k, Mk row k → k < n → k ≤ m
theorem IsNext.uniq {row : List Nat} {n m m' : Nat} (h : IsNext row n m) (h' : IsNext row n m') : m = m' := Nat.le_antisymm (h.le m' h'.made h'.gt) (h'.le m h.made h.gt)
theorem IsLast.uniq {row : List Nat} {n m m' : Nat} (h : IsLast row n m) (h' : IsLast row n m') : m = m' := Nat.le_antisymm (h'.ge m h.made h.lt) (h.ge m' h'.made h'.lt)
theorem IsNext.of_last {row : List Nat} {n m : Nat} (h : IsLast row n m) (hn : Mk row n) : IsNext row m n := ⟨hn, h.lt, fun k hk hmk => by
  rcases Nat.lt_or_ge k n with z | z
  · have := h.ge k hk z; omega
  · exact z⟩
theorem IsLast.of_next {row : List Nat} {n m : Nat} (h : IsNext row n m) (hn : Mk row n) : IsLast row m n := ⟨hn, h.gt, fun k hk hkm => by
  rcases Nat.lt_or_ge n k with z | z
  · have := h.le k hk z; omega
  · exact z⟩
theorem cnt_next {row : List Nat} {n m : Nat} (h : IsNext row n m) : cnt row m = cnt row n + 1 := by
  obtain ⟨md, gt, le⟩ := h
  cases m with
  | zero => omega
  | succ m =>
    rw [cnt_yes md, cnt_gap (row := row) (a := n) (b := m) (by omega) fun k h1 h2 hk => by have := le k hk h1; omega]
theorem cnt_last {row : List Nat} {n m : Nat} (h : IsLast row n m) : cnt row (n - 1) = cnt row m :=
  cnt_gap (by have := h.lt; omega) fun k h1 h2 hk => by have := h.ge k hk (by have := h.lt; omega); omega
end MA
set_option linter.all false
set_option maxHeartbeats 1000000
namespace MA
/-! ### rows of primes below 100 -/
def PR : List Nat := [2, 3, 5, 7, 11, 13, 17, 19, 23, 29, 31, 37, 41, 43, 47, 53, 59, 61, 67, 71, 73, 79, 83, 89, 97]
structure Rw (row : List Nat) : Prop where
  mem : ∀ p ∈ row, p ∈ PR
  up : row.Pairwise (· < ·)
  le : row.length ≤ 6
theorem pr_cop : ∀ p ∈ PR, ∀ q ∈ PR, p < q → Nat.Coprime p q := by decide +kernel
theorem pr_ge : ∀ p ∈ PR, 2 ≤ p := by decide
theorem pr_le : ∀ p ∈ PR, p ≤ 97 := by decide
theorem Rw.good {row : List Nat} (w : Rw row) : Good row := ⟨fun p hp => pr_ge p (w.mem p hp), w.up.imp_of_mem fun {p q} hp hq h => pr_cop p (w.mem p hp) q (w.mem q hq) h⟩
theorem Rw.ge {row : List Nat} (w : Rw row) {p : Nat} (h : p ∈ row) : 2 ≤ p ∧ p ≤ 97 := ⟨pr_ge p (w.mem p h), pr_le p (w.mem p h)⟩
theorem Rw.sub {row r : List Nat} (w : Rw row) (s : r.Sublist row) : Rw r := ⟨fun p h => w.mem p (s.subset h), w.up.sublist s, Nat.le_trans s.length_le w.le⟩
theorem Rw.tail {p : Nat} {r : List Nat} (w : Rw (p :: r)) : Rw r := w.sub (List.sublist_cons_self _ _)
theorem Rw.nil : Rw [] := ⟨fun _ h => (List.not_mem_nil h).elim, List.Pairwise.nil, by simp⟩
def Fits (row : List Nat) (b : Nat) : Prop := (row.length ≤ 4 ∧ b < 2 ^ 70) ∨ (row.length ≤ 5 ∧ b < 2 ^ 37) ∨ b ≤ 2 * 10 ^ 9
theorem Fits.sub {row r : List Nat} {b : Nat} (f : Fits row b) (s : r.length ≤ row.length) : Fits r b := by unfold Fits at *; omega
theorem Fits.mono {row : List Nat} {b c : Nat} (f : Fits row b) (h : c ≤ b) : Fits row c := by unfold Fits at *; omega
theorem box1 {p k K b : Nat} {r : List Nat} (g : Good (p :: r)) {q : Nat} (hq : q ≤ p) (hb : b < q ^ k) (h : cnt r b ≤ K) : cnt (p :: r) b ≤ K * k :=
  Nat.le_trans (cnt_box g (Nat.lt_of_lt_of_le hb (Nat.pow_le_pow_left hq k))) (Nat.mul_le_mul_right _ h)
theorem st3 : ∀ p ∈ PR, 2 < p → 3 ≤ p := by decide
theorem st5 : ∀ p ∈ PR, 3 < p → 5 ≤ p := by decide
theorem st7 : ∀ p ∈ PR, 5 < p → 7 ≤ p := by decide
theorem st11 : ∀ p ∈ PR, 7 < p → 11 ≤ p := by decide
theorem st13 : ∀ p ∈ PR, 11 < p → 13 ≤ p := by decide
def QS : List Nat := [2, 3, 5, 7, 11, 13]
/-- the i-th of a row is no less than the i-th prime -/
theorem step_of : ∀ i, i < 5 → ∀ p ∈ PR, QS.getD i 0 < p → QS.getD (i + 1) 0 ≤ p := by decide
theorem row_at : ∀ (row : List Nat) (i : Nat), (∀ p ∈ row, p ∈ PR) → row.Pairwise (· < ·) → row.length + i ≤ 6 → (∀ p ∈ row, QS.getD i 0 ≤ p) → ∀ j p, row[j]? = some p → QS.getD (i + j) 0 ≤ p
  | [], _, _, _, _, _, j, p, h => by simp at h
  | a :: r, i, hm, hp, hl, hg, 0, p, h => by
    simp at h
    subst h
    exact hg a List.mem_cons_self
  | a :: r, i, hm, hp, hl, hg, j + 1, p, h => by
    have h' : r[j]? = some p := by simpa using h
    have := row_at r (i + 1) (fun p h => hm p (List.mem_cons_of_mem _ h)) (List.pairwise_cons.mp hp).2 (by simp at hl; omega) (fun p hpr => by
      have h1 := (List.pairwise_cons.mp hp).1 p hpr
      have h2 := hg a List.mem_cons_self
      have h3 : 0 < r.length := List.length_pos_of_mem hpr
      exact step_of i (by simp at hl; omega) p (hm p (List.mem_cons_of_mem _ hpr)) (by omega)) j p h'
    rw [show i + (j + 1) = i + 1 + j by omega]
    exact this
theorem Rw.at {row : List Nat} (w : Rw row) {j p : Nat} (h : row[j]? = some p) : QS.getD j 0 ≤ p := by
  have := row_at row 0 w.mem w.up (by have := w.le; omega) (fun p hp => (w.ge hp).1) j p h
  rwa [Nat.zero_add] at this
theorem cnt_boxes : ∀ (row qs ks : List Nat) (b : Nat), Good row → row.length ≤ qs.length → (∀ j p q : Nat, row[j]? = some p → qs[j]? = some q → q ≤ p) → ks.length = qs.length → (∀ (j q k : Nat), qs[j]? = some q → ks[j]? = some k → b < q ^ k) → (∀ k ∈ ks, 1 ≤ k) → cnt row b ≤ ks.foldr (· * ·) 1
  | [], qs, ks, b, _, _, _, _, _, h => by
    refine Nat.le_trans cnt_nil ?_
    revert h
    generalize ks = ks'
    intro h
    induction ks' with
    | nil => simp
    | cons k ks ih =>
      rw [List.foldr_cons]
      exact Nat.mul_pos (h k List.mem_cons_self) (ih fun k hk => h k (List.mem_cons_of_mem _ hk))
  | p :: r, [], ks, b, _, hl, _, _, _, _ => by simp at hl
  | p :: r, q :: qs, [], b, _, _, _, hl, _, _ => by simp at hl
  | p :: r, q :: qs, k :: ks, b, g, hl, hq, he, hb, hk => by
    have ih := cnt_boxes r qs ks b g.tail (by simpa using hl) (fun j p q h1 h2 => hq (j + 1) p q (by simpa using h1) (by simpa using h2)) (by simpa using he) (fun j q k h1 h2 => hb (j + 1) q k (by simpa using h1) (by simpa using h2)) fun k h => hk k (List.mem_cons_of_mem _ h)
    rw [List.foldr_cons, Nat.mul_comm]
    exact box1 g (hq 0 p q rfl rfl) (hb 0 q k rfl rfl) ih
theorem getD_take {n j q : Nat} (h : (QS.take n)[j]? = some q) : q = QS.getD j 0 := by
  rw [List.getElem?_take] at h
  split at h
  · rw [List.getD_eq_getElem?_getD, h]; rfl
  · cases h
theorem Rw.box {row : List Nat} (w : Rw row) (n : Nat) (ks : List Nat) (b : Nat) (hl : row.length ≤ (QS.take n).length) (he : ks.length = (QS.take n).length) (hb : ∀ (j q k : Nat), (QS.take n)[j]? = some q → ks[j]? = some k → b < q ^ k) (hk : ∀ k ∈ ks, 1 ≤ k) : cnt row b ≤ ks.foldr (· * ·) 1 :=
  cnt_boxes row (QS.take n) ks b w.good hl (fun j p q h1 h2 => by rw [getD_take h2]; exact w.at h1) he hb hk
theorem all_of {qs ks : List Nat} {B b : Nat} (h : ∀ x ∈ qs.zip ks, B < x.1 ^ x.2) (hb : b ≤ B) : ∀ (j q k : Nat), qs[j]? = some q → ks[j]? = some k → b < q ^ k := fun j q k h1 h2 => by
  have : (q, k) ∈ qs.zip ks := List.mem_iff_getElem?.mpr ⟨j, by rw [List.getElem?_zip_eq_some]; exact ⟨h1, h2⟩⟩
  exact Nat.lt_of_le_of_lt hb (h _ this)
theorem Rw.fit {row : List Nat} (w : Rw row) {b : Nat} (f : Fits row b) : cnt row b ≤ 9000000 := by
  rcases f with ⟨h1, h2⟩ | ⟨h1, h2⟩ | h
  · exact Nat.le_trans (w.box 4 [70, 45, 31, 25] b (by simpa [QS] using h1) rfl (all_of (B := 2 ^ 70 - 1) (by decide) (by omega)) (by decide)) (by decide)
  · exact Nat.le_trans (w.box 5 [37, 24, 16, 14, 11] b (by simpa [QS] using h1) rfl (all_of (B := 2 ^ 37 - 1) (by decide) (by omega)) (by decide)) (by decide)
  · exact Nat.le_trans (w.box 6 [31, 20, 14, 12, 9, 9] b (by simpa [QS] using w.le) rfl (all_of (B := 2 * 10 ^ 9) (by decide) (by omega)) (by decide)) (by decide)
end MA
set_option Elab.async false
set_option linter.all false
set_option maxRecDepth 100000
set_option maxHeartbeats 4000000
namespace Px
open PySem L2 MA
local macro_rules | `(tactic| bv_omega) => `(tactic| first | assumption | omega | exact cm (by omega) | exact cd (by omega) | exact cp (by omega) | exact trivial)
local macro_rules | `(tactic| array_get_dec) => `(tactic| first
  | assumption
  | exact sq_up
  | exact Own.sqi (by assumption) 0 (by rfl)
  | exact Own.sqi (by assumption) 1 (by rfl)
  | exact Own.sqi (by assumption) 2 (by rfl)
  | exact Own.sqi (by assumption) 3 (by rfl)
  | exact Own.sqi (by assumption) 4 (by rfl)
  | exact Own.sq (by assumption) (by assumption)
  | exact sq_new (by assumption) (by assumption))
local macro_rules | `(tactic| clean_wf) => `(tactic| first
  | with_reducible exact ev_c
  | (with_reducible apply ev_v') <;> rfl
  | (with_reducible apply ev_add) <;> clean_wf
  | (with_reducible apply ev_sub) <;> clean_wf
  | (with_reducible apply ev_mul) <;> clean_wf
  | (with_reducible apply ev_mod) <;> clean_wf
  | (with_reducible apply ev_div) <;> clean_wf
  | (with_reducible apply ev_pow) <;> clean_wf
  | (with_reducible apply ev_neg) <;> clean_wf
  | (with_reducible apply ev_lt) <;> clean_wf
  | (with_reducible apply ev_le) <;> clean_wf
  | (with_reducible apply ev_gt) <;> clean_wf
  | (with_reducible apply ev_ge) <;> clean_wf
  | (with_reducible apply ev_eqi) <;> clean_wf
  | (with_reducible apply ev_nei) <;> clean_wf
  | (with_reducible apply ev_len) <;> clean_wf
  | (with_reducible apply ev_ixL) <;> clean_wf
  | (with_reducible apply ev_min) <;> clean_wf
  | (with_reducible apply ev_max) <;> clean_wf
  | (with_reducible apply ev_abs) <;> clean_wf
  | (with_reducible apply ev_intB) <;> clean_wf
  | (with_reducible apply ea_1) <;> clean_wf
  | (with_reducible apply ea_2) <;> clean_wf
  | (with_reducible apply ea_3) <;> clean_wf
  | with_reducible exact ea_nil
  | (with_reducible apply ea_cons) <;> clean_wf
  | with_reducible exact el_nil
  | (with_reducible apply ep_lt) <;> clean_wf
  | (with_reducible apply ep_le) <;> clean_wf
  | (with_reducible apply ep_gt) <;> clean_wf
  | (with_reducible apply ep_ge) <;> clean_wf
  | (with_reducible apply ep_eqi) <;> clean_wf
  | (with_reducible apply ep_nei) <;> clean_wf
  | (with_reducible apply ep_not) <;> clean_wf
  | ((with_reducible apply ep_and) <;> first | (intro _; clean_wf; done) | clean_wf)
  | ((with_reducible apply ep_or) <;> first | (intro _; clean_wf; done) | clean_wf)
  | (with_reducible apply et_t) <;> clean_wf
  | (with_reducible apply eo_is) <;> clean_wf
  | with_reducible exact eo_no
  | array_get_dec
  | bv_omega
  | rfl
  | skip)
local macro_rules | `(tactic| symm_saturate) => `(tactic| first
  | ((with_reducible apply q_set); (focus (clean_wf; done)))
  | ((with_reducible apply s_set); (focus (clean_wf; done)))
  | ((with_reducible apply q_aug (hx := rfl)); (focus (clean_wf; done)))
  | ((with_reducible apply s_aug (hx := rfl)); (focus (clean_wf; done)))
  | ((with_reducible apply q_augC (hx := rfl)); (focus (clean_wf; done)))
  | ((with_reducible apply s_augC (hx := rfl)); (focus (clean_wf; done))))
local macro_rules | `(tactic| subst_eqs) => `(tactic| repeat' (first
  | with_reducible apply w_c
  | ((with_reducible apply w_v'); (focus rfl))
  | with_reducible apply w_op
  | with_reducible apply w_cb
  | with_reducible apply w_cons
  | with_reducible apply w_nil
  | with_reducible apply r_add
  | with_reducible apply r_sub
  | ((with_reducible apply r_mul); (focus (bv_omega; done)))
  | ((with_reducible apply r_div); (focus (bv_omega; done)))
  | ((with_reducible apply r_mod); (focus (bv_omega; done)))
  | ((with_reducible apply r_pow); (focus (bv_omega; done)))
  | with_reducible apply r_lt
  | with_reducible apply r_le
  | with_reducible apply r_gt
  | with_reducible apply r_ge
  | with_reducible apply r_min
  | with_reducible apply r_max
  | with_reducible apply r_intB
  | ((with_reducible apply r_len); (focus (array_get_dec; done)))
  | with_reducible apply w_callW
  | with_reducible apply q_setW
  | with_reducible apply s_setW
  | with_reducible apply s_retW))

abbrev zl (l : List Nat) : List Int := l.map fun (x : Nat) => (x : Int)
abbrev zv (l : List Nat) : List V := (zl l).map V.int
/-! ### the hand -/
abbrev hd (d s : Int) : List V := [.int d, .int s]
def HdOk (d s : Int) : Prop := 0 ≤ d ∧ 0 ≤ s ∧ s < 2147483587
def sp_law_hand (K : PySem.W.Frag) : Sp := fun vs H Q _ => Nod H ∧ ∃ (c k : Int), vs = [.int c, .int k] ∧ 0 ≤ k ∧ k < 1000 ∧ ∀ (p : Addr) (d s : Int), H p = none → HdOk d s → Q (.ref p) (upd H p (.lst (hd d s)))
def sp_law_draw (K : PySem.W.Frag) : Sp := fun vs H Q _ => Nod H ∧ ∃ (a : Addr) (d s m : Int), vs = [.ref a, .int m] ∧ H a = some (.lst (hd d s)) ∧ HdOk d s ∧ 0 < m ∧ m < 2 ^ 200 ∧
  ∀ (r d' s' : Int), 0 ≤ r → r < m → HdOk d' s' → Q (.int r) (upd H a (.lst (hd d' s')))
/-- a draw from a hand that is one's own -/
theorem Own.draw {K : PySem.W.Frag} {B H : Hp} {L : List (Addr × List V)} {p : Addr} {d s m : Int} {Q : VK} {E : XK} (o : Own B L H) (i : Nat) (h : L[i]? = some (p, hd d s)) (ok : HdOk d s) (m0 : 0 < m ∧ m < 2 ^ 200)
    (k : ∀ (r d' s' : Int) (H2 : Hp), 0 ≤ r ∧ r < m → HdOk d' s' → Own B (L.set i (p, hd d' s')) H2 → Q (.int r) H2) : sp_law_draw K ([.ref p, .int m] ++ []) H Q E :=
  ⟨o.nod, p, d, s, m, rfl, o.atI i h, ok, m0.1, m0.2, fun r d' s' h0 h1 ok' => k r d' s' _ ⟨h0, h1⟩ ok' (o.mut i h)⟩
/-! ### the cells -/
/-- what stands where _law_cells has told -/
structure Cells (H : Hp) (l : Addr) (as : List Addr) (ns : List Int) : Prop where
  lst : H l = some (.lst (as.map V.ref))
  len : as.length = ns.length
  tup : ∀ (i : Nat) (b : Addr) (c : Int), as[i]? = some b → ns[i]? = some c → H b = some (.tup [.int (i : Int), .int c])
theorem Cells.ex {H H' : Hp} {l : Addr} {as : List Addr} {ns : List Int} (c : Cells H l as ns) (e : Ex H H') : Cells H' l as ns := ⟨e _ _ c.lst, c.len, fun i b x h1 h2 => e _ _ (c.tup i b x h1 h2)⟩
def sp_law_cells (K : PySem.W.Frag) : Sp := fun vs H Q _ => Nod H ∧ ∃ (a : Addr) (ns : List Int) (m : Nat), vs = [.ref a, .int (m : Int)] ∧ SqL K H a (ns.map V.int) ∧ ns.length ≤ 63 ∧ 
  ∀ (l : Addr) (as : List Addr) (cs : List Int) (H' : Hp), cs.length ≤ 63 → Ex H H' → Nod H' → Cells H' l as cs → (∀ b u, H b = some u → l ≠ b ∧ b ∉ as) → Q (.ref l) H'
theorem nod_layT {H : Hp} (n : Nod H) : ∀ {as : List Addr} {xs : List V} {j : Nat}, Nod (layT H j as xs)
  | [], _, _ => n
  | _ :: _, [], _ => n
  | a :: as, x :: xs, j => by
    have := nod_layT n (as := as) (xs := xs) (j := j + 1)
    show Nod (upd (layT H (j + 1) as xs) a (.tup [.int (j : Int), x]))
    infer_instance
/-- what is forgotten on the way to the cells -/
theorem fg_cells {H H1 : Hp} [n : Nod H] {l : Addr} {as : List Addr} {xs : List V} (e : Ex H H1) (hl : H1 l = none) (hla : l ∉ as) (han : ∀ b ∈ as, H1 b = none) (nd : as.Nodup) (hlen : as.length = xs.length) :
    Fg H (upd (layT H1 0 as xs) l (.lst (as.map V.ref))) (upd (layT H 0 as xs) l (.lst (as.map V.ref))) := by
  refine fg_gen (fun a => a = l ∨ a ∈ as) (fun a u q z => ?_) (fun a z => ?_) (fun a q z => ?_)
  · have z1 : a ≠ l := fun y => z (.inl y)
    have z2 : a ∉ as := fun y => z (.inr y)
    exact ⟨by rw [upd_ne z1, layT_off z2]; exact e a u q, by rw [upd_ne z1, layT_off z2]; exact q⟩
  · by_cases h : a = l
    · subst h
      exact ⟨.lst (as.map V.ref), trivial, upd_same, upd_same, fun u q => by rw [e a u q] at hl; cases hl⟩
    · have hm : a ∈ as := z.resolve_left h
      obtain ⟨i, hi⟩ := List.mem_iff_getElem?.mp hm
      have hi2 : i < xs.length := by rw [← hlen]; exact (List.getElem?_eq_some_iff.mp hi).1
      have hx := List.getElem?_eq_getElem hi2
      exact ⟨.tup [.int ((0 + i : Nat) : Int), xs[i]], trivial, by rw [upd_ne h]; exact layT_at nd hi hx, by rw [upd_ne h]; exact layT_at nd hi hx, fun u q => by have := han a hm; rw [e a u q] at this; cases this⟩
  · have z1 : a ≠ l := fun y => z (.inl y)
    have z2 : a ∉ as := fun y => z (.inr y)
    rw [upd_ne z1, layT_off z2]; exact q
/-- slots: script many -/
abbrev n_law_cells : List Str := ["script", "many"]
def t_law_cells (K : PySem.W.Frag) : TS := (sFg (tRet (tEnumL K (tCons (tOp rCat (tSl (rSlL K) (tVar 0) tNoPart (tPart (tVar 1))) (tOp rRep (tLst (tCons (tC (.int 0)) tNil)) (tCB cInt (tCons (tOp (rEqD K) (tVar 0) (tLst tNil)) tNil)))) tNil))))
theorem r_law_cells {K : PySem.W.Frag} {vs : List V} {H : Hp} {Q : VK} {E : XK} (h : sp_law_cells K vs H Q E) : t_law_cells K { nx := fun _ H' => Q .non H', rt := Q } (start n_law_cells vs) H := by
  obtain ⟨nd, a, ns, m, rfl, ha, hl, q⟩ := h
  refine fg_body (s_retW ?_)
  show tOp rCat (tSl (rSlL K) (tVar 0) tNoPart (tPart (tVar 1))) _ _ H _
  refine w_op (w_evL (el_sl (ev_v 0) eo_no (eo_is (ev_v 1)) ha) fun p1 hp1 => ?_)
  rw [cut_to]
  have o1 : Own H [(p1, (ns.take m).map V.int)] (upd H p1 (.lst ((ns.take m).map V.int))) := Own.nil.new hp1
  refine w_op (w_evL (el_lst (ea_1 ev_c) (by simp)) fun p2 hp2 => ?_)
  have o2 := o1.new (xs := [.int 0]) hp2
  refine w_cb (w_one (w_op (w_v 0 (w_evL el_nil fun p3 hp3 => ?_))))
  have o3 := o2.new (xs := []) hp3
  refine rv_eqI (ns := ns) (ms := []) (o3.sq ha) (o3.sqi 0 rfl) _ (r_intB (w_rep1 (k := 1) (o3.atI 1 rfl) fun p4 hp4 => ?_))
  have o4 := o3.new (xs := (if decide (ns = []) then [V.int 0] else [])) hp4
  refine ⟨p1, p4, _, _, rfl, rfl, o4.atI 3 rfl, o4.atI 0 rfl, ?_, fun p5 hp5 => ?_⟩
  · refine Nat.le_trans (m := 100) ?_ (by decide)
    split <;> simp <;> omega
  have o5 := o4.new (xs := (ns.take m).map V.int ++ (if decide (ns = []) then [V.int 0] else [])) hp5
  have ex : ∃ cs : List Int, (ns.take m).map V.int ++ (if decide (ns = []) then [V.int 0] else []) = cs.map V.int ∧ cs.length ≤ 63 := by
    by_cases h0 : ns = []
    · subst h0
      exact ⟨[0], by simp, by simp⟩
    · exact ⟨ns.take m, by simp [h0], by rw [List.length_take]; omega⟩
  obtain ⟨cs, ecs, hcs⟩ := ex
  rw [ecs] at o5 ⊢
  refine ⟨p5, cs.map V.int, rfl, o5.sqi 0 rfl, fun l as h1 h2 h3 h4 h5 => ?_⟩
  refine ⟨_, fg_cells o5.ex h1 h2 h4 h3 h5, q l as cs _ hcs ?_ ?_ ⟨upd_same, by simpa using h5, fun i b c e1 e2 => ?_⟩ fun b u hb => ⟨fun z => ?_, fun z => ?_⟩⟩
  · intro b u hb
    have hb5 := o5.ex b u hb
    rw [upd_ne (ne_of_none hb5 h1), layT_off (fun z => by rw [h4 b z] at hb5; cases hb5)]
    exact hb
  · have := nod_layT nd (as := as) (xs := cs.map V.int) (j := 0)
    infer_instance
  · have hb : b ≠ l := fun z => h2 (z ▸ List.mem_of_getElem? e1)
    rw [upd_ne hb, layT_at h3 e1 (by rw [List.getElem?_map, e2]; rfl), Nat.zero_add]
  · subst z
    have := o5.ex _ _ hb
    rw [h1] at this
    cases this
  · have := o5.ex _ _ hb
    rw [h4 b z] at this
    cases this
/-- for k, cell in _law_cells(script, m): P of the slots; what is made in a turn may stay -/
theorem for_cells {K : PySem.W.Frag} {σ : L2.St} {H : Hp} {D : Ends} {tu s2 : TS} {ta : TA} {n1 n2 : Nat} {a : Addr} {ns : List Int} {m : Nat} [nd : Nod H] (h : EvA ta σ H [.ref a, .int (m : Int)]) (ha : SqL K H a (ns.map V.int)) (hl : ns.length ≤ 63) (P : L2.St → Prop) (h0 : P σ)
    (hs : ∀ (H1 : Hp), Ex H H1 → ∀ (k c : Int) σ' H', 0 ≤ k → k < 63 → P σ' → Ex H1 H' → Nod H' → tu { D with nx := fun σ2 H2 => P σ2 ∧ Ex H1 H2 ∧ Nod H2, ct := fun σ2 H2 => P σ2 ∧ Ex H1 H2 ∧ Nod H2, bk := s2 D } ((σ'.set n1 (some (.int k))).set n2 (some (.int c))) H')
    (hd : ∀ σ' H', P σ' → Ex H H' → Nod H' → s2 D σ' H') : tSeq (tFor (iList K (tCall (sp_law_cells K) [] E0 ta)) (gTup K 2 (gCons (gName n1) (gCons (gName n2) gNil))) tu) s2 D σ H := by
  refine q_seq (w_forL (w_call h ⟨nd, a, ns, m, rfl, ha, hl, fun l as cs H1 hc e1 n1' C _ => ⟨l, rfl, ⟨_, sq_at C.lst⟩, ?_⟩⟩))
  refine lp_list (xs := as.map V.ref) (fun i σ' H' => P σ' ∧ Ex H1 H' ∧ Nod H') ⟨h0, ex_refl, n1'⟩ (fun i σ' H' _ hv => sq_at (hv.2.1 _ _ C.lst)) (fun i x σ' H' hi hv => ?_) (fun σ' H' hv => hd σ' H' hv.1 (ex_trans e1 hv.2.1) hv.2.2)
  rw [List.getElem?_map] at hi
  cases e : as[i]? with
  | none => rw [e] at hi; cases hi
  | some b =>
    rw [e] at hi
    cases hi
    have hlt : i < cs.length := by rw [← C.len]; exact (List.getElem?_eq_some_iff.mp e).1
    have hx := List.getElem?_eq_getElem hlt
    refine ⟨b, _, rfl, st_at (hv.2.1 _ _ (C.tup i b _ e hx)), rfl, _, _, rfl, _, _, rfl, rfl, ?_⟩
    exact hs H1 e1 (i : Int) cs[i] σ' H' (by omega) (by omega) hv.1 hv.2.1 hv.2.2
end Px
set_option Elab.async false
set_option linter.all false
set_option maxRecDepth 100000
set_option maxHeartbeats 4000000
namespace Px
open PySem L2 MA
local macro_rules | `(tactic| bv_omega) => `(tactic| first | assumption | omega | exact cm (by omega) | exact cd (by omega) | exact cp (by omega) | exact trivial)
local macro_rules | `(tactic| array_get_dec) => `(tactic| first
  | assumption
  | exact sq_up
  | exact Own.sqi (by assumption) 0 (by rfl)
  | exact Own.sqi (by assumption) 1 (by rfl)
  | exact Own.sqi (by assumption) 2 (by rfl)
  | exact Own.sqi (by assumption) 3 (by rfl)
  | exact Own.sqi (by assumption) 4 (by rfl)
  | exact Own.sq (by assumption) (by assumption)
  | exact sq_new (by assumption) (by assumption))
local macro_rules | `(tactic| clean_wf) => `(tactic| first
  | with_reducible exact ev_c
  | (with_reducible apply ev_v') <;> rfl
  | (with_reducible apply ev_add) <;> clean_wf
  | (with_reducible apply ev_sub) <;> clean_wf
  | (with_reducible apply ev_mul) <;> clean_wf
  | (with_reducible apply ev_mod) <;> clean_wf
  | (with_reducible apply ev_div) <;> clean_wf
  | (with_reducible apply ev_pow) <;> clean_wf
  | (with_reducible apply ev_neg) <;> clean_wf
  | (with_reducible apply ev_lt) <;> clean_wf
  | (with_reducible apply ev_le) <;> clean_wf
  | (with_reducible apply ev_gt) <;> clean_wf
  | (with_reducible apply ev_ge) <;> clean_wf
  | (with_reducible apply ev_eqi) <;> clean_wf
  | (with_reducible apply ev_nei) <;> clean_wf
  | (with_reducible apply ev_len) <;> clean_wf
  | (with_reducible apply ev_ixL) <;> clean_wf
  | (with_reducible apply ev_min) <;> clean_wf
  | (with_reducible apply ev_max) <;> clean_wf
  | (with_reducible apply ev_abs) <;> clean_wf
  | (with_reducible apply ev_intB) <;> clean_wf
  | (with_reducible apply ea_1) <;> clean_wf
  | (with_reducible apply ea_2) <;> clean_wf
  | (with_reducible apply ea_3) <;> clean_wf
  | with_reducible exact ea_nil
  | (with_reducible apply ea_cons) <;> clean_wf
  | with_reducible exact el_nil
  | (with_reducible apply ep_lt) <;> clean_wf
  | (with_reducible apply ep_le) <;> clean_wf
  | (with_reducible apply ep_gt) <;> clean_wf
  | (with_reducible apply ep_ge) <;> clean_wf
  | (with_reducible apply ep_eqi) <;> clean_wf
  | (with_reducible apply ep_nei) <;> clean_wf
  | (with_reducible apply ep_not) <;> clean_wf
  | ((with_reducible apply ep_and) <;> first | (intro _; clean_wf; done) | clean_wf)
  | ((with_reducible apply ep_or) <;> first | (intro _; clean_wf; done) | clean_wf)
  | (with_reducible apply et_t) <;> clean_wf
  | (with_reducible apply eo_is) <;> clean_wf
  | with_reducible exact eo_no
  | array_get_dec
  | bv_omega
  | rfl
  | skip)
local macro_rules | `(tactic| symm_saturate) => `(tactic| first
  | ((with_reducible apply q_set); (focus (clean_wf; done)))
  | ((with_reducible apply s_set); (focus (clean_wf; done)))
  | ((with_reducible apply q_aug (hx := rfl)); (focus (clean_wf; done)))
  | ((with_reducible apply s_aug (hx := rfl)); (focus (clean_wf; done)))
  | ((with_reducible apply q_augC (hx := rfl)); (focus (clean_wf; done)))
  | ((with_reducible apply s_augC (hx := rfl)); (focus (clean_wf; done))))
local macro_rules | `(tactic| subst_eqs) => `(tactic| repeat' (first
  | with_reducible apply w_c
  | ((with_reducible apply w_v'); (focus rfl))
  | with_reducible apply w_op
  | with_reducible apply w_cb
  | with_reducible apply w_cons
  | with_reducible apply w_nil
  | with_reducible apply r_add
  | with_reducible apply r_sub
  | ((with_reducible apply r_mul); (focus (bv_omega; done)))
  | ((with_reducible apply r_div); (focus (bv_omega; done)))
  | ((with_reducible apply r_mod); (focus (bv_omega; done)))
  | ((with_reducible apply r_pow); (focus (bv_omega; done)))
  | with_reducible apply r_lt
  | with_reducible apply r_le
  | with_reducible apply r_gt
  | with_reducible apply r_ge
  | with_reducible apply r_min
  | with_reducible apply r_max
  | with_reducible apply r_intB
  | ((with_reducible apply r_len); (focus (array_get_dec; done)))
  | with_reducible apply w_callW
  | with_reducible apply q_setW
  | with_reducible apply s_setW
  | with_reducible apply s_retW))

theorem zl_perm {ns : List Int} {acc : List Nat} (p : ns.Perm (zl acc)) : ∃ l : List Nat, ns = zl l ∧ l.Perm acc := by
  refine ⟨ns.map Int.toNat, ?_, ?_⟩
  · have h : ∀ x ∈ ns, 0 ≤ x := fun x hx => by
      obtain ⟨y, _, rfl⟩ := List.mem_map.mp (p.mem_iff.mp hx)
      omega
    clear p
    induction ns with
    | nil => rfl
    | cons a l ih =>
      simp only [zl, List.map_cons] at ih ⊢
      rw [← ih fun x hx => h x (List.mem_cons_of_mem _ hx), Int.toNat_of_nonneg (h a List.mem_cons_self)]
  · have := p.map Int.toNat
    rw [show (zl acc).map Int.toNat = acc by simp [zl, Function.comp_def]] at this
    exact this
theorem zl_le {l : List Nat} (h : (zl l).Pairwise (· ≤ ·)) : l.Pairwise (· ≤ ·) := by
  rw [zl, List.pairwise_map] at h
  exact h.imp fun z => by omega
theorem zl_len (l : List Nat) : (zl l).length = l.length := List.length_map _
theorem zv_len (l : List Nat) : (zv l).length = l.length := by simp
theorem zv_get {l : List Nat} {i x : Nat} (h : l[i]? = some x) : (zv l)[i]? = some (.int (x : Int)) := by simp [h]
theorem zv_app (l m : List Nat) : zv (l ++ m) = zv l ++ zv m := by simp
theorem zv_at {l : List Nat} {i : Nat} (h : i < l.length) : atI (zv l) (i : Int) = some (.int ((l[i] : Nat) : Int)) := at_of rfl (zv_get (List.getElem?_eq_getElem h))
theorem List.eraseIdx_mapL {α β : Type} (f : α → β) : ∀ (l : List α) (i : Nat), (l.map f).eraseIdx i = (l.eraseIdx i).map f
  | [], _ => rfl
  | _ :: _, 0 => rfl
  | a :: l, i + 1 => by simp [List.eraseIdx_mapL f l i]
theorem erase_perm : ∀ {l : List Nat} {i : Nat} (h : i < l.length), l.Perm (l[i] :: l.eraseIdx i)
  | a :: l, 0, _ => .refl _
  | a :: l, i + 1, h => by
    have h' : i < l.length := by simpa using h
    exact ((erase_perm h').cons a).trans (.swap ..)
section
variable {K : PySem.W.Frag} {σ : L2.St} {H : Hp} {ta te : TE} {Q : VK}
theorem r_sortN {p : Addr} {acc : List Nat} (s : SqL K H p (zv acc)) (k : ∀ (l : List Nat) q, l.Perm acc → l.Pairwise (· ≤ ·) → H q = none → Q (.ref q) (upd H q (.lst (zv l)))) : rSortedI K [.ref p] H Q :=
  ⟨p, zl acc, rfl, s, fun ns' q hp hs hn => by
    obtain ⟨l, rfl, h⟩ := zl_perm hp
    exact k l q h (zl_le hs) hn⟩
theorem seq_ix {n : Nat} {i : Int} (h0 : 0 ≤ i) (h1 : i < n) : seqIndex? i n = some i.toNat := by
  obtain ⟨k, rfl⟩ : ∃ k : Nat, i = (k : Int) := ⟨i.toNat, by omega⟩
  unfold seqIndex?
  have h2 : k < n := by omega
  have h3 : ¬ (k : Int) < 0 := by omega
  simp [h2, h3]
theorem w_pop {a : Addr} {xs : List V} {t : TA} (ha : Ev ta σ H (.ref a)) (hx : SqL K H a xs) (ht : t σ H fun vs H2 => ∃ (ys : List V) (i : Int) (y : V), vs = [.int i] ∧ H2 a = some (.lst ys) ∧ 0 ≤ i ∧ i < ys.length ∧ i < 2 ^ 60 ∧ ys[i.toNat]? = some y ∧ Q y (upd H2 a (.lst (ys.eraseIdx i.toNat)))) (mono : ∀ Q1 Q2 : List V → Hp → Prop, (∀ v H1, Q1 v H1 → Q2 v H1) → t σ H Q1 → t σ H Q2) : tBM K "list" rPopAt ta t σ H Q :=
  ha _ ⟨.inl ⟨rfl, _, hx⟩, mono _ _ (fun vs H2 z => by
    obtain ⟨ys, i, y, rfl, h1, h2, h3, h4, h5, q⟩ := z
    exact ⟨a, ys, i, i.toNat, y, rfl, rfl, h1, by omega, by omega, seq_ix h2 h3, h5, q⟩) ht⟩
theorem w_popR {a : Addr} {xs : List V} {t : TA} (ha : Ev ta σ H (.ref a)) (hx : SqL K H a xs) (ht : t σ H fun vs H2 => rPopAt (.ref a) vs H2 Q) : tBM K "list" rPopAt ta t σ H Q := ha _ ⟨.inl ⟨rfl, _, hx⟩, ht⟩
theorem r_popN {a : Addr} {l : List Nat} {i : Nat} (h : H a = some (.lst (zv l))) (hi : i < l.length) (hz : i < 1000000) (k : Q (.int ((l[i] : Nat) : Int)) (upd H a (.lst (zv (l.eraseIdx i))))) : rPopAt (.ref a) [.int (i : Int)] H Q :=
  ⟨a, zv l, i, i, _, rfl, rfl, h, by omega, by omega, by rw [seq_ix (by omega) (by rw [zv_len]; omega)]; simp, zv_get (List.getElem?_eq_getElem hi), by
    have e : (zv l).eraseIdx i = zv (l.eraseIdx i) := by rw [zv, zl, List.map_map, List.eraseIdx_mapL, zv, zl, List.map_map]
    rw [e]
    exact k⟩
end
theorem pr_up : PR.Pairwise (· < ·) := by decide
/-! ### the bound of a row -/
def topN (row : List Nat) : Nat := if 4 < row.length then 10 ^ 9 else 10 ^ 18
theorem top_fits {row : List Nat} (w : Rw row) {b : Nat} (h : b ≤ topN row) : Fits row b := by
  unfold topN at h
  unfold Fits
  have := w.le
  split at h <;> omega
theorem top_ge {row : List Nat} : 10 ^ 9 ≤ topN row ∧ topN row ≤ 10 ^ 18 := by unfold topN; split <;> omega
def ten (k : Nat) : Str := PySem.Str.ofString "1" ++ Txt.mul (PySem.Str.ofString "0") (k : Int)
theorem ten_all : ∀ k : Fin 40, PySem.intText? (ten k) = some ((10 : Int) ^ (k : Nat)) ∧ (ten k).length ≤ 640 ∧ (PySem.Str.ofString "1").length + (Txt.mul (PySem.Str.ofString "0") ((k : Nat) : Int)).length ≤ 1000 := by decide +kernel
theorem ten_mul (k : Nat) (h : k < 40) : MulOk (PySem.Str.ofString "0") (k : Int) := PyProof.Rows.mulOk_of 1 40 (by decide +kernel) (by omega) (by omega) (by decide) (by decide)
theorem r_ten {σ : L2.St} {H : Hp} {Q : VK} {k : Nat} (hk : k < 40) (q : Q (.int (10 ^ k)) H) : oRepS (.str (PySem.Str.ofString "0")) (.int (k : Int)) H fun y H2 => oCatS (.str (PySem.Str.ofString "1")) y H2 fun x H3 => tNil σ H3 fun xs H4 => cIntS (x :: xs) H4 Q := by
  obtain ⟨h1, h2, h3⟩ := ten_all ⟨k, hk⟩
  exact ⟨_, (k : Int), rfl, rfl, ten_mul k hk, _, _, rfl, rfl, Nat.le_trans h3 (by decide), ten k, _, rfl, h1, h2, q⟩
def strLen (n : Nat) : Nat := (PySem.Str.ofString (toString (n : Int))).length
structure TopOk (top : Nat) : Prop where
  pos : 0 < top
  le : top ≤ 10 ^ 18
  l2 : 2 ≤ strLen top
  l40 : strLen top ≤ 20
theorem top6 : TopOk (10 ^ 6) := ⟨by decide, by decide, by decide +kernel, by decide +kernel⟩
theorem top9 : TopOk (10 ^ 9) := ⟨by decide, by decide, by decide +kernel, by decide +kernel⟩
theorem top18 : TopOk (10 ^ 18) := ⟨by decide, by decide, by decide +kernel, by decide +kernel⟩
theorem topN_ok {row : List Nat} : TopOk (topN row) := by
  unfold topN
  split
  · exact top9
  · exact top18
theorem r_strlen {H : Hp} {Q : VK} {σ : L2.St} {top : Nat} (t : TopOk top) (q : Q (.int (strLen top : Int)) H) : cStr [.int (top : Int)] H fun x H1 => tNil σ H1 fun xs H2 => cLenS (x :: xs) H2 Q := by
  refine ⟨_, rfl, ?_, _, rfl, ?_, q⟩
  · have h1 := t.le
    have h0 := t.pos
    show ((top : Int).natAbs).log2 < 1920
    rw [Int.natAbs_natCast]
    have : top.log2 < 60 := (Nat.log2_lt (by omega)).mpr (by omega)
    omega
  · exact Nat.le_trans t.l40 (by decide)
end Px
set_option linter.all false
set_option maxHeartbeats 1000000
namespace MS
/-! ### sorting -/
def srt (l : List Int) : List Int := l.mergeSort (fun a b => decide (a ≤ b))
theorem srt_pair (l : List Int) : (srt l).Pairwise (· ≤ ·) := by
  have h := List.pairwise_mergeSort (le := fun a b : Int => decide (a ≤ b)) (fun a b c h1 h2 => by simp at *; omega) (fun a b => by simp; omega) l
  exact h.imp (fun h => by simpa using h)
theorem srt_perm (l : List Int) : (srt l).Perm l := List.mergeSort_perm l _
theorem srt_eq {l l' : List Int} (p : l'.Perm l) (s : l'.Pairwise (· ≤ ·)) : l' = srt l :=
  (p.trans (srt_perm l).symm).eq_of_pairwise (fun a b _ _ h1 h2 => by omega) s (srt_pair l)
theorem srt_len (l : List Int) : (srt l).length = l.length := (srt_perm l).length_eq
/-! ### the greatest power of 3 -/
def p3 (n p : Nat) : Nat := if h : 0 < p ∧ 3 * p ≤ n then p3 n (3 * p) else p
termination_by n - p
decreasing_by omega
theorem p3_spec (n : Nat) : ∀ p k, p = 3 ^ k → p ≤ n → ∃ j, p3 n p = 3 ^ j ∧ 3 ^ j ≤ n ∧ n < 3 ^ (j + 1) := by
  intro p
  induction p using p3.induct n with
  | case1 p h ih =>
    intro k e hp
    rw [p3, dif_pos h]
    exact ih (k + 1) (by rw [e, Nat.pow_succ]; omega) h.2
  | case2 p h =>
    intro k e hp
    rw [p3, dif_neg h]
    have hp0 : 0 < p := by rw [e]; exact Nat.pow_pos (by omega)
    refine ⟨k, e, by omega, ?_⟩
    rw [Nat.pow_succ, ← e]
    omega
def top3 (n : Nat) : Nat := p3 n 1
theorem top3_spec {n : Nat} (h : 0 < n) : ∃ j, top3 n = 3 ^ j ∧ 3 ^ j ≤ n ∧ n < 3 ^ (j + 1) := p3_spec n 1 0 rfl h
theorem top3_pos {n : Nat} (h : 0 < n) : 0 < top3 n := by
  obtain ⟨j, e, _⟩ := top3_spec h
  rw [e]; exact Nat.pow_pos (by omega)
theorem top3_le {n : Nat} (h : 0 < n) : top3 n ≤ n := by
  obtain ⟨j, e, l, _⟩ := top3_spec h
  rw [e]; exact l
theorem pow3_odd (j : Nat) : 3 ^ j % 2 = 1 := by
  induction j with
  | zero => rfl
  | succ j ih => rw [Nat.pow_succ]; omega
theorem top3_odd {n : Nat} (h : 0 < n) : top3 n % 2 = 1 := by
  obtain ⟨j, e, _⟩ := top3_spec h
  rw [e]; exact pow3_odd j
theorem top3_lt {n : Nat} (h : 0 < n) : n < 3 * top3 n := by
  obtain ⟨j, e, _, l⟩ := top3_spec h
  rw [e]; rw [Nat.pow_succ] at l; omega
/-! ### the sum -/
def sums (n : Nat) : List Nat :=
  if h0 : n = 0 then [] else if h : n % 2 = 0 then (sums (n / 2)).map (2 * ·) else top3 n :: sums (n - top3 n)
termination_by n
decreasing_by
  · omega
  · have := top3_pos (n := n) (by omega); omega
theorem sums_0 : sums 0 = [] := by rw [sums]; rfl
theorem sums_even {n : Nat} (h0 : n ≠ 0) (h : n % 2 = 0) : sums n = (sums (n / 2)).map (2 * ·) := by rw [sums, dif_neg h0, dif_pos h]
theorem sums_odd {n : Nat} (h : n % 2 = 1) : sums n = top3 n :: sums (n - top3 n) := by rw [sums, dif_neg (by omega), dif_neg (by omega)]
theorem sums_sum : ∀ n, (sums n).sum = n := by
  intro n
  induction n using Nat.strongRecOn with
  | ind n ih =>
    by_cases h0 : n = 0
    · subst h0; rw [sums_0]; rfl
    by_cases h : n % 2 = 0
    · rw [sums_even h0 h]
      have : ∀ l : List Nat, (l.map (2 * ·)).sum = 2 * l.sum := fun l => by
        induction l with
        | nil => rfl
        | cons a l ih => simp only [List.map_cons, List.sum_cons, ih]; omega
      rw [this, ih _ (by omega)]; omega
    · have h1 := top3_pos (n := n) (by omega)
      have h2 := top3_le (n := n) (by omega)
      rw [sums_odd (by omega), List.sum_cons, ih _ (by omega)]; omega
theorem sums_made : ∀ n, ∀ x ∈ sums n, ∃ a b, x = 2 ^ a * 3 ^ b := by
  intro n
  induction n using Nat.strongRecOn with
  | ind n ih =>
    intro x hx
    by_cases h0 : n = 0
    · subst h0; rw [sums_0] at hx; cases hx
    by_cases h : n % 2 = 0
    · rw [sums_even h0 h] at hx
      obtain ⟨y, hy, rfl⟩ := List.mem_map.mp hx
      obtain ⟨a, b, rfl⟩ := ih _ (by omega) y hy
      exact ⟨a + 1, b, by rw [Nat.pow_succ]; simp only [Nat.mul_assoc, Nat.mul_comm, Nat.mul_left_comm]⟩
    · have h1 := top3_pos (n := n) (by omega)
      rw [sums_odd (by omega)] at hx
      rcases List.mem_cons.mp hx with rfl | hx
      · obtain ⟨j, e, _⟩ := top3_spec (n := n) (by omega)
        exact ⟨0, j, by rw [e]; simp⟩
      · exact ih _ (by omega) x hx
theorem sums_le : ∀ n, ∀ x ∈ sums n, x ≤ n := by
  intro n x hx
  have h := sums_sum n
  have : ∀ l : List Nat, x ∈ l → x ≤ l.sum := fun l hl => by
    induction l with
    | nil => cases hl
    | cons a l ih =>
      rw [List.sum_cons]
      rcases List.mem_cons.mp hl with rfl | hl
      · omega
      · have := ih hl; omega
  have := this _ hx; omega
theorem sums_pos : ∀ n, ∀ x ∈ sums n, 0 < x := by
  intro n x hx
  obtain ⟨a, b, rfl⟩ := sums_made n x hx
  exact Nat.mul_pos (Nat.pow_pos (by omega)) (Nat.pow_pos (by omega))
theorem sums_len : ∀ k n, n < 2 ^ k → (sums n).length ≤ k := by
  intro k
  induction k with
  | zero =>
    intro n hn
    have : n = 0 := by simpa using hn
    subst this; rw [sums_0]; simp
  | succ k ih =>
    intro n hn
    rw [Nat.pow_succ] at hn
    by_cases h0 : n = 0
    · subst h0; rw [sums_0]; simp
    by_cases h : n % 2 = 0
    · rw [sums_even h0 h, List.length_map]
      have := ih (n / 2) (by omega); omega
    · have h1 := top3_pos (n := n) (by omega)
      have h2 := top3_le (n := n) (by omega)
      have h3 := top3_odd (n := n) (by omega)
      rw [sums_odd (by omega), List.length_cons]
      by_cases h4 : n - top3 n = 0
      · rw [h4, sums_0]; simp
      · rw [sums_even h4 (by omega), List.length_map]
        have := ih ((n - top3 n) / 2) (by omega); omega
theorem half_dvd {p x : Nat} (hp : p % 2 = 1) (h : p ∣ 2 * x) : p ∣ x := by
  have c : p.Coprime 2 := by
    have : Nat.gcd p 2 = 1 := by
      rw [Nat.gcd_comm, Nat.gcd_rec, hp]
      rfl
    exact this
  exact c.dvd_of_dvd_mul_left h
/-- none parts another -/
theorem sums_apart : ∀ n, (sums n).Pairwise (fun x y => ¬ x ∣ y ∧ ¬ y ∣ x) := by
  intro n
  induction n using Nat.strongRecOn with
  | ind n ih =>
    by_cases h0 : n = 0
    · subst h0; rw [sums_0]; exact .nil
    by_cases h : n % 2 = 0
    · rw [sums_even h0 h]
      refine List.pairwise_map.mpr ((ih _ (by omega)).imp ?_)
      rintro x y ⟨h1, h2⟩
      exact ⟨fun z => h1 (Nat.dvd_of_mul_dvd_mul_left (by omega) z), fun z => h2 (Nat.dvd_of_mul_dvd_mul_left (by omega) z)⟩
    · have h1 := top3_pos (n := n) (by omega)
      have h2 := top3_le (n := n) (by omega)
      have h3 := top3_odd (n := n) (by omega)
      have h4 := top3_lt (n := n) (by omega)
      rw [sums_odd (by omega)]
      refine List.pairwise_cons.mpr ⟨fun y hy => ?_, ih _ (by omega)⟩
      have h5 : n - top3 n ≠ 0 := fun z => by rw [z, sums_0] at hy; cases hy
      rw [sums_even h5 (by omega)] at hy
      obtain ⟨x, hx, rfl⟩ := List.mem_map.mp hy
      have h6 := sums_le _ x hx
      have h7 := sums_pos _ x hx
      constructor
      · intro z
        have := Nat.le_of_dvd h7 (half_dvd h3 z)
        omega
      · intro z
        obtain ⟨c, e⟩ := z
        have e2 : top3 n = 2 * (x * c) := by rw [e, Nat.mul_assoc]
        omega
/-! ### taking a prime out -/
def strip (p n : Nat) : Nat := if h : 2 ≤ p ∧ 0 < n ∧ n % p = 0 then strip p (n / p) else n
termination_by n
decreasing_by exact Nat.div_lt_self h.2.1 (by omega)
def stripAll : List Nat → Nat → Nat
  | [], n => n
  | p :: r, n => stripAll r (strip p n)
theorem strip_yes {p n : Nat} (h1 : 2 ≤ p) (h2 : 0 < n) (h3 : n % p = 0) : strip p n = strip p (n / p) := by rw [strip, dif_pos ⟨h1, h2, h3⟩]
theorem strip_no {p n : Nat} (h3 : n % p ≠ 0) : strip p n = n := by rw [strip, dif_neg (fun h => h3 h.2.2)]
theorem strip_mul {p m : Nat} (hp : 2 ≤ p) (hm : 0 < m) (a : Nat) : strip p (p ^ a * m) = strip p m := by
  induction a with
  | zero => simp
  | succ a ih =>
    have e : p ^ (a + 1) * m = p * (p ^ a * m) := by rw [Nat.pow_succ]; simp only [Nat.mul_assoc, Nat.mul_comm, Nat.mul_left_comm]
    rw [e, strip_yes hp (Nat.mul_pos (by omega) (Nat.mul_pos (Nat.pow_pos (by omega)) hm)) (Nat.mul_mod_right _ _), Nat.mul_div_cancel_left _ (by omega)]
    exact ih
theorem strip_pow {p : Nat} (hp : 2 ≤ p) (a : Nat) : strip p (p ^ a) = 1 := by
  have := strip_mul (m := 1) hp (by omega) a
  rw [Nat.mul_one] at this
  rw [this]
  exact strip_no (by rw [Nat.mod_eq_of_lt (by omega)]; omega)
theorem made23 (a b : Nat) : stripAll [2, 3] (2 ^ a * 3 ^ b) = 1 := by
  show strip 3 (strip 2 (2 ^ a * 3 ^ b)) = 1
  rw [strip_mul (by omega) (Nat.pow_pos (by omega)), strip_no (n := 3 ^ b) (by have := pow3_odd b; omega)]
  exact strip_pow (by omega) b
theorem strip_pos {p n : Nat} (h : 0 < n) : 0 < strip p n := by
  induction n using Nat.strongRecOn with
  | ind n ih =>
    rw [strip]
    split
    · rename_i hc
      refine ih _ (Nat.div_lt_self hc.2.1 (by omega)) ?_
      have := Nat.div_add_mod n p
      have h1 : n / p ≠ 0 := fun z => by rw [z, hc.2.2] at this; omega
      exact Nat.pos_of_ne_zero h1
    · exact h
end MS
set_option Elab.async false
set_option linter.all false
set_option maxRecDepth 100000
set_option maxHeartbeats 4000000
namespace Px
open PySem L2 MS
/-! ### draws -/
def DrOk (ds : List Int) : Prop := ds.length ≤ 240 ∧ ∀ d ∈ ds, 0 ≤ d ∧ d < 1000
def sp_law_draws (K : PySem.W.Frag) : Sp := fun vs H Q _ => Nod H ∧ ∃ (a : Addr) (ns : List Int), vs = [.ref a] ∧ SqL K H a (ns.map V.int) ∧ ns.length ≤ 63 ∧
  ∀ (p : Addr) (ds : List Int), H p = none → DrOk ds → Q (.ref p) (upd H p (.lst (ds.map V.int)))
def sp_law_take (K : PySem.W.Frag) : Sp := fun vs H Q _ => Nod H ∧ ∃ (a : Addr) (ds : List Int) (m : Int), vs = [.ref a, .int m] ∧ H a = some (.lst (ds.map V.int)) ∧ DrOk ds ∧ 0 < m ∧
  ∀ (r : Int) (ds' : List Int), 0 ≤ r → r < m → DrOk ds' → Q (.int r) (upd H a (.lst (ds'.map V.int)))
/-- slots: script draws k rest stir many -/
abbrev n_law_draws : List Str := ["script", "draws", "k", "rest", "stir", "many"]
def t_law_draws (K : PySem.W.Frag) : TS := (sFg (tSeq (tAsg (tLst tNil) (gName 1))
  (tSeq (tFor (iRng1 (tCons (tCB cMin (tCons (tCB (cLen K) (tCons (tVar 0) tNil)) (tCons (tC (.int 80)) tNil))) tNil)) (gName 2) (tSeq (tAsg (tCB cAbs (tCons (tOp (rIxL K) (tVar 0) (tVar 2)) tNil)) (gName 3))
  (tIfS (tTest (tOp oLt (tVar 3) (tOp oPow (tC (.int 10)) (tC (.int 18))))) (tSeq (tAsg (tOp oMod (tOp oMul (tOp oMod (tOp oAdd (tOp oAdd (tVar 3) (tOp oMul (tC (.int 7919)) (tVar 2))) (tC (.int 3))) (tC (.int 2147483647))) (tC (.int 48271))) (tC (.int 2147483647))) (gName 4))
  (tSeq (tAsg (tOp oMod (tOp oMul (tVar 4) (tVar 4)) (tC (.int 2147483629))) (gName 4))
  (tSeq (tDrop (tBM K "list" rAppend (tVar 1) (tCons (tOp oMod (tOp oDiv (tVar 4) (tC (.int 16))) (tC (.int 1000))) tNil)))
  (tSeq (tDrop (tBM K "list" rAppend (tVar 1) (tCons (tOp oMod (tOp oDiv (tVar 4) (tC (.int 16000))) (tC (.int 1000))) tNil)))
  (tSeq (tAsg (tOp oMod (tOp oAdd (tVar 4) (tOp oMul (tC (.int 40692)) (tOp oAdd (tVar 2) (tC (.int 7))))) (tC (.int 2147483587))) (gName 4))
  (tDrop (tBM K "list" rAppend (tVar 1) (tCons (tOp oMod (tOp oDiv (tOp oMod (tOp oMul (tVar 4) (tVar 4)) (tC (.int 2147483647))) (tC (.int 16))) (tC (.int 1000))) tNil)))))))) (tSeq (tAsg (tC (.int 0)) (gName 5))
  (tWhile (tAnd (tTest (tOp oGe (tVar 3) (tC (.int 1000)))) (tTest (tOp oLt (tVar 5) (tC (.int 60))))) (tSeq (tDrop (tBM K "list" rAppend (tVar 1) (tCons (tOp oMod (tVar 3) (tC (.int 1000))) tNil)))
  (tSeq (tAsg (tOp oDiv (tVar 3) (tC (.int 1000))) (gName 3))
  (tAsg (tOp oAdd (tVar 5) (tC (.int 1))) (gName 5)))))))))
  (tRet (tSl (rSlL K) (tVar 1) tNoPart (tPart (tC (.int 240))))))))
/-- slots: draws many -/
abbrev n_law_take : List Str := ["draws", "many"]
def t_law_take (K : PySem.W.Frag) : TS := (sFg (tSeq (tIfS (bFg (tTest (tOp (rEqD K) (tVar 0) (tLst tNil)))) (tRet (tC (.int 0))) tNext)
  (tRet (tOp oMod (tBM K "list" rPopAt (tVar 0) (tCons (tC (.int 0)) tNil)) (tVar 1)))))
theorem r_law_take {K : PySem.W.Frag} {vs : List V} {H : Hp} {Q : VK} {E : XK} (h : sp_law_take K vs H Q E) : t_law_take K { nx := fun _ H' => Q .non H', rt := Q } (start ["draws", "many"] vs) H := by
  obtain ⟨nd, a, ds, m, rfl, ha, ok, hm, q⟩ := h
  refine fg_body (q_when (et_isnil (sq_at ha) (ev_v 0)) (fun hb => ?_) (fun hb => ?_))
  · refine s_ret ev_c ⟨H, fg_same ex_refl, ?_⟩
    have e : ds = [] := of_decide_eq_true hb
    subst e
    have := q 0 [] (by omega) hm ok
    rw [upd_self ha] at this
    exact this
  · have e : ds ≠ [] := of_decide_eq_false hb
    obtain ⟨d, r, rfl⟩ := List.exists_cons_of_ne_nil e
    have hd := ok.2 d List.mem_cons_self
    refine s_retW (w_op (w_pop0 (ev_v 0) ha (w_v 1 ⟨d, m, rfl, rfl, hm, ?_⟩)))
    · refine ⟨_, fg_mutL ha (fun b u hb hu => by rw [upd_ne hb]; exact hu) upd_same, ?_⟩
      exact q _ r (Int.emod_nonneg _ (by omega)) (Int.emod_lt_of_pos _ hm) ⟨by have := ok.1; simp at this; omega, fun z hz => ok.2 z (List.mem_cons_of_mem _ hz)⟩
theorem r_law_draws {K : PySem.W.Frag} {vs : List V} {H : Hp} {Q : VK} {E : XK} (h : sp_law_draws K vs H Q E) : t_law_draws K { nx := fun _ H' => Q .non H', rt := Q } (start ["script", "draws", "k", "rest", "stir", "many"] vs) H := by
  obtain ⟨nd, a, ns, rfl, ha, hl, q⟩ := h
  refine fg_body (q_setL el_nil fun p hp => ?_)
  have ha1 : ∀ o, SqL K (upd H p o) a (ns.map V.int) := fun o => sq_new hp ha
  -- for k in range(min(len(script), 80))
  refine q_forR1 (k := (ns.length : Int)) (fun Q z => ?_) (by omega) (fun i σ' H' => ∃ (ds : List Int) (y2 y3 y4 y5 : Option V), σ' = [some (.ref a), some (.ref p), y2, y3, y4, y5] ∧ H' = upd H p (.lst (ds.map V.int)) ∧ ds.length ≤ 60 * i ∧ ∀ d ∈ ds, 0 ≤ d ∧ d < 1000)
    ⟨[], none, none, none, none, rfl, rfl, by simp, by simp⟩ (fun i σ' H' hi hv => ?_) (fun σ' H' hv => ?_)
  · refine ea_1 (ev_min (ev_len (ev_v 0) (ha1 _)) ev_c) _ ?_
    rw [List.length_map, if_neg (by omega)]
    exact z
  · obtain ⟨ds, y2, y3, y4, y5, rfl, rfl, hlen, hds⟩ := hv
    have hx : i < ns.length := by omega
    have sz : sizeLine = 16777216 := by decide
    -- rest = abs(script[k])
    refine q_set (ev_abs (ev_ixL (ev_v 0) (ev_v 2) (ha1 _) (at_of rfl (by rw [List.getElem?_map, List.getElem?_eq_getElem hx]; rfl)))) ?_
    generalize (if ns[i] < 0 then -ns[i] else ns[i]) = rest
    refine s_if (et_t (ev_lt (ev_v 3) (ev_pow ev_c ev_c (cp (by omega))))) (fun hb => ?_) (fun hb => ?_)
    · have h18 : rest < 10 ^ 18 := of_decide_eq_true hb
      have m0 : ∀ x : Int, 0 ≤ x % 1000 ∧ x % 1000 < 1000 := fun x => ⟨Int.emod_nonneg _ (by omega), Int.emod_lt_of_pos _ (by omega)⟩
      refine q_set (ev_mod (ev_mul (ev_mod (ev_add (ev_add (ev_v 3) (ev_mul ev_c (ev_v 2) (cm (by omega)))) ev_c) ev_c (by omega)) ev_c (cm (by omega))) ev_c (by omega)) ?_
      generalize hs1 : (rest + 7919 * (i : Int) + 3) % 2147483647 * 48271 % 2147483647 = st1
      have b1 : 0 ≤ st1 ∧ st1 < 2147483647 := by omega
      refine q_set (ev_mod (ev_mul (ev_v 4) (ev_v 4) (cm (by omega))) ev_c (by omega)) ?_
      generalize hs2 : st1 * st1 % 2147483629 = st2
      have b2 : 0 ≤ st2 ∧ st2 < 2147483629 := by
        rw [← hs2]
        exact ⟨Int.emod_nonneg _ (by omega), Int.emod_lt_of_pos _ (by omega)⟩
      refine q_appI (by omega) (ev_v 1) (ev_mod (ev_div (ev_v 4) ev_c (cd (by omega))) ev_c (by omega)) ?_
      refine q_appI (by simp; omega) (ev_v 1) (ev_mod (ev_div (ev_v 4) ev_c (cd (by omega))) ev_c (by omega)) ?_
      refine q_set (ev_mod (ev_add (ev_v 4) (ev_mul ev_c (ev_add (ev_v 2) ev_c) (cm (by omega)))) ev_c (by omega)) ?_
      generalize hs3 : (st2 + 40692 * ((i : Int) + 7)) % 2147483587 = st3
      have b3 : 0 ≤ st3 ∧ st3 < 2147483587 := by omega
      refine s_appI (by simp; omega) (ev_v 1) (ev_mod (ev_div (ev_mod (ev_mul (ev_v 4) (ev_v 4) (cm (by omega))) ev_c (by omega)) ev_c (cd (by omega))) ev_c (by omega)) ?_
      refine ⟨_, _, _, _, _, rfl, rfl, by simp; omega, fun d hd => ?_⟩
      simp only [List.mem_append, List.mem_singleton] at hd
      rcases hd with ((hd | rfl) | rfl) | rfl
      · exact hds d hd
      · exact m0 _
      · exact m0 _
      · exact m0 _
    · have h18 : ¬ rest < 10 ^ 18 := of_decide_eq_false hb
      refine q_set ev_c ?_
      -- while rest >= 1000 and many < 60
      refine s_while (fun m σ' H' => ∃ (es : List Int) (r : Int) (c : Nat), σ' = [some (.ref a), some (.ref p), some (.int i), some (.int r), y4, some (.int c)] ∧ H' = upd H p (.lst (es.map V.int)) ∧ m = 60 - c ∧ c ≤ 60 ∧ es.length ≤ 60 * i + c ∧ (∀ d ∈ es, 0 ≤ d ∧ d < 1000)) 60
        ⟨ds, rest, 0, rfl, rfl, rfl, by omega, by omega, hds⟩ (fun m σ' H' hw => ?_)
      obtain ⟨es, r, c, rfl, rfl, rfl, hc, hel, hes⟩ := hw
      refine ⟨_, et_and (et_t (ev_ge (ev_v 3) ev_c)) fun _ => et_t (ev_lt (ev_v 5) ev_c), fun hb => ?_, fun _ => ?_⟩
      · rw [Bool.and_eq_true, decide_eq_true_eq, decide_eq_true_eq] at hb
        refine q_appI (by omega) (ev_v 1) (ev_mod (ev_v 3) ev_c (by omega)) ?_
        refine q_set (ev_div (ev_v 3) ev_c (cd (by omega))) ?_
        refine s_set (ev_add (ev_v 5) ev_c) ⟨60 - (c + 1), by omega, es ++ [r % 1000], r / 1000, c + 1, rfl, rfl, rfl, by omega, by simp; omega, fun d hd => ?_⟩
        simp only [List.mem_append, List.mem_singleton] at hd
        rcases hd with hd | rfl
        · exact hes d hd
        · exact ⟨Int.emod_nonneg _ (by omega), Int.emod_lt_of_pos _ (by omega)⟩
      · exact ⟨es, _, _, _, _, rfl, rfl, by omega, hes⟩
  · obtain ⟨ds, y2, y3, y4, y5, rfl, rfl, hlen, hds⟩ := hv
    have hlen2 : ds.length ≤ 60 * ns.length := by simpa using hlen
    refine s_retL (el_sl (ev_v 1) eo_no (eo_is ev_c) sq_up) fun r hr => ?_
    obtain ⟨hr1, hr2⟩ := none_upd hr
    rw [show (240 : Int) = ((240 : Nat) : Int) from rfl, cut_to]
    refine ⟨_, fg_newL hr1 (ex_upd hr1 (ex_new hp)) upd_same, q r _ hr1 ⟨?_, fun d hd => hds d (List.mem_of_mem_take hd)⟩⟩
    rw [List.length_take]
    omega
end Px
set_option Elab.async false
set_option linter.all false
set_option maxRecDepth 100000
set_option maxHeartbeats 4000000
namespace Px
open PySem L2 MA
theorem w_take {K : PySem.W.Frag} {σ : L2.St} {H : Hp} [Nod H] {a : Addr} {ds : List Int} {m : Int} {t : TA} {Q : VK} (h : EvA t σ (upd H a (.lst (ds.map V.int))) [.ref a, .int m]) (ok : DrOk ds) (hm : 0 < m)
    (k : ∀ (r : Int) (ds' : List Int), 0 ≤ r → r < m → DrOk ds' → Q (.int r) (upd H a (.lst (ds'.map V.int)))) : tCall (sp_law_take K) [] E0 t σ (upd H a (.lst (ds.map V.int))) Q :=
  w_call h ⟨inferInstance, a, ds, m, rfl, upd_same, ok, hm, fun r ds' h0 h1 o => by rw [upd_upd]; exact k r ds' h0 h1 o⟩
/-- int('1' + '0' * k), k from a call -/
theorem w_ten {σ : L2.St} {H : Hp} {te : TE} {Q : VK} (h : te σ H fun x H1 => ∃ k : Nat, x = .int (k : Int) ∧ k < 40 ∧ Q (.int (10 ^ k)) H1) (mono : ∀ Q1 Q2 : VK, (∀ v H1, Q1 v H1 → Q2 v H1) → te σ H Q1 → te σ H Q2) :
    tCB cIntS (tCons (tOp oCatS (tC (.str (PySem.Str.ofString "1"))) (tOp oRepS (tC (.str (PySem.Str.ofString "0"))) te)) tNil) σ H Q := by
  refine mono _ _ (fun v H1 z => ?_) h
  obtain ⟨k, rfl, hk, q⟩ := z
  obtain ⟨h1, h2, h3⟩ := ten_all ⟨k, hk⟩
  refine ⟨_, (k : Int), rfl, rfl, ten_mul k hk, _, _, rfl, rfl, Nat.le_trans h3 (by decide), ten k, _, rfl, h1, h2, q⟩
theorem mono_take {K : PySem.W.Frag} {σ : L2.St} {H : Hp} {t : TA} {vs : List V} (h : EvA t σ H vs) (inv : ∀ Q : List V → Hp → Prop, t σ H Q → Q vs H) : ∀ Q1 Q2 : VK, (∀ v H1, Q1 v H1 → Q2 v H1) → tCall (sp_law_take K) [] E0 t σ H Q1 → tCall (sp_law_take K) [] E0 t σ H Q2 := fun Q1 Q2 hq z => by
  have z1 : sp_law_take K (vs ++ []) H Q1 E0 := inv _ z
  obtain ⟨nd, a, ds, m, e, ha, ok, hm, k⟩ := z1
  exact h _ ⟨nd, a, ds, m, e, ha, ok, hm, fun r ds' h0 h1 o => hq _ _ (k r ds' h0 h1 o)⟩
def sp_law_number (K : PySem.W.Frag) : Sp := fun vs H Q _ => Nod H ∧ ∃ (a : Addr) (ds : List Int) (m : Int), vs = [.ref a, .int m] ∧ H a = some (.lst (ds.map V.int)) ∧ DrOk ds ∧ 0 < m ∧ m ≤ 10 ^ 30 ∧
  ∀ (r : Int) (ds' : List Int), 0 ≤ r → r ≤ m → DrOk ds' → Q (.int r) (upd H a (.lst (ds'.map V.int)))
/-- slots: draws most far k power base figures some -/
abbrev n_law_number : List Str := ["draws", "most", "far", "k", "power", "base", "figures", "some"]
def t_law_number (K : PySem.W.Frag) : TS := (sFg (tSeq (tAsg (tC (.int 0)) (gName 2))
  (tSeq (tFor (iRng1 (tCons (tC (.int 11)) tNil)) (gName 3) (tAsg (tOp oAdd (tOp oMul (tVar 2) (tC (.int 1000))) (tCall (sp_law_take K) [] E0 (tCons (tVar 0) (tCons (tC (.int 1000)) tNil)))) (gName 2)))
  (tSeq (tAsg (tC (.int 1)) (gName 4))
  (tSeq (tAsg (tFg (tOp (rIxL K) (tLst (tCons (tC (.int 2)) (tCons (tC (.int 3)) (tCons (tC (.int 5)) (tCons (tC (.int 7)) (tCons (tC (.int 10)) (tCons (tC (.int 6)) tNil))))))) (tCall (sp_law_take K) [] E0 (tCons (tVar 0) (tCons (tC (.int 6)) tNil))))) (gName 5))
  (tSeq (tFor (iRng1 (tCons (tCall (sp_law_take K) [] E0 (tCons (tVar 0) (tCons (tC (.int 62)) tNil))) tNil)) (gName 3) (tAsg (tIf (tTest (tOp oLt (tVar 4) (tVar 1))) (tOp oMul (tVar 4) (tVar 5)) (tVar 4)) (gName 4)))
  (tSeq (tAsg (tCB cIntS (tCons (tOp oCatS (tC (.str (PySem.Str.ofString "1"))) (tOp oRepS (tC (.str (PySem.Str.ofString "0"))) (tCall (sp_law_take K) [] E0 (tCons (tVar 0) (tCons (tC (.int 31)) tNil))))) tNil)) (gName 6))
  (tSeq (tAsg (tLst (tCons (tCall (sp_law_take K) [] E0 (tCons (tVar 0) (tCons (tC (.int 40)) tNil))) (tCons (tCall (sp_law_take K) [] E0 (tCons (tVar 0) (tCons (tC (.int 1000)) tNil))) (tCons (tOp oSub (tOp oAdd (tVar 4) (tCall (sp_law_take K) [] E0 (tCons (tVar 0) (tCons (tC (.int 3)) tNil)))) (tC (.int 1))) (tCons (tOp oMod (tVar 2) (tVar 6)) tNil))))) (gName 7))
  (tSeq (tAsg (tFg (tOp rCat (tVar 7) (tLst (tCons (tOp oMod (tVar 2) (tOp oAdd (tVar 1) (tC (.int 1)))) (tCons (tOp oMod (tVar 2) (tOp oAdd (tVar 1) (tC (.int 1)))) (tCons (tVar 1) tNil)))))) (gName 7))
  (tRet (tCB cMax (tCons (tC (.int 0)) (tCons (tCB cMin (tCons (tVar 1) (tCons (tOp (rIxL K) (tVar 7) (tCall (sp_law_take K) [] E0 (tCons (tVar 0) (tCons (tC (.int 7)) tNil)))) tNil))) tNil)))))))))))))
theorem r_law_number {K : PySem.W.Frag} {vs : List V} {H : Hp} {Q : VK} {E : XK} (h : sp_law_number K vs H Q E) : t_law_number K { nx := fun _ H' => Q .non H', rt := Q } (start ["draws", "most", "far", "k", "power", "base", "figures", "some"] vs) H := by
  obtain ⟨nd, a, ds0, m, rfl, ha, ok0, hm, hm2, q⟩ := h
  refine fg_body (q_set ev_c ?_)
  refine q_forR1 (ea_1 ev_c) (by omega) (fun i σ' H' => ∃ (ds : List Int) (f : Int) (y3 : Option V), σ' = [some (.ref a), some (.int m), some (.int f), y3, none, none, none, none] ∧ H' = upd H a (.lst (ds.map V.int)) ∧ DrOk ds ∧ 0 ≤ f ∧ f < 1000 ^ i)
    ⟨ds0, 0, none, rfl, (upd_self ha).symm, ok0, by omega, by simp⟩ (fun i σ' H' hi hv => ?_) (fun σ' H' hv => ?_)
  · obtain ⟨ds, f, y3, rfl, rfl, ok, f0, f1⟩ := hv
    have fb : f < 1000 ^ 10 := Int.lt_of_lt_of_le f1 (by
      have : (1000 : Nat) ^ i ≤ 1000 ^ 10 := Nat.pow_le_pow_right (by omega) (by omega)
      exact_mod_cast this)
    refine s_setW (w_op (w_ev (ev_mul (ev_v 2) ev_c (cm (by omega))) (w_take (ea_2 (ev_v 0) ev_c) ok (by omega) fun r ds' h0 h1 ok' => ⟨_, _, rfl, rfl, ?_⟩)))
    refine ⟨ds', f * 1000 + r, some (.int i), rfl, rfl, ok', by omega, ?_⟩
    rw [Int.pow_succ]
    omega
  · obtain ⟨ds, f, y3, rfl, rfl, ok, f0, f1⟩ := hv
    have f2 : f < 1000 ^ 11 := f1
    refine q_set ev_c (q_setW (w_fg (w_op (w_lst (ea_cons ev_c (ea_cons ev_c (ea_cons ev_c (ea_3 ev_c ev_c ev_c))) _ ⟨(by show 6 ≤ sizeLine; decide), fun p hp => ?_⟩)))))
    obtain ⟨hp1, hp2⟩ := none_upd hp
    -- the draw while the list stands
    refine w_call (ea_2 (ev_v 0) ev_c) ⟨inferInstance, a, ds, 6, rfl, by rw [upd_ne (Ne.symm hp2), upd_same], ok, by omega, fun r ds1 h0 h1 ok1 => ?_⟩
    have hget : ∃ b : Int, atI [V.int 2, .int 3, .int 5, .int 7, .int 10, .int 6] r = some (.int b) ∧ 2 ≤ b ∧ b ≤ 10 := by
      rcases (by omega : r = 0 ∨ r = 1 ∨ r = 2 ∨ r = 3 ∨ r = 4 ∨ r = 5) with rfl | rfl | rfl | rfl | rfl | rfl
      · exact ⟨2, rfl, by omega, by omega⟩
      · exact ⟨3, rfl, by omega, by omega⟩
      · exact ⟨5, rfl, by omega, by omega⟩
      · exact ⟨7, rfl, by omega, by omega⟩
      · exact ⟨10, rfl, by omega, by omega⟩
      · exact ⟨6, rfl, by omega, by omega⟩
    obtain ⟨b, hat, b0, b1⟩ := hget
    refine ⟨p, _, r, .int b, rfl, rfl, sq_at (by rw [upd_ne hp2, upd_same]), hat, upd H a (.lst (ds1.map V.int)), ?_, ?_⟩
    · have := fg_mutL (H := upd H a (.lst (ds.map V.int))) (H' := upd (upd (upd H a (.lst (ds.map V.int))) p (.lst [V.int 2, .int 3, .int 5, .int 7, .int 10, .int 6])) a (.lst (ds1.map V.int))) (p := a) (ys := ds1.map V.int) upd_same (fun c u hc hu => by rw [upd_ne hc, upd_ne (ne_of_none hu hp)]; exact hu) upd_same
      rw [upd_upd] at this
      exact this
    -- the powers
    · refine q_seq (w_forR1 (w_one (w_take (ea_2 (ev_v 0) ev_c) ok1 (by omega) fun r2 ds2 g0 g1 ok2 => ⟨r2, rfl, by omega, by omega, ?_⟩)))
      refine lp_range (fun i σ' H' => ∃ (pw : Int) (y3 : Option V), σ' = [some (.ref a), some (.int m), some (.int f), y3, some (.int pw), some (.int b), none, none] ∧ H' = upd H a (.lst (ds2.map V.int)) ∧ 0 < pw ∧ pw ≤ 10 ^ 31) ⟨1, y3, rfl, rfl, by omega, by omega⟩ (fun i σ' H' hi hv => ?_) (fun σ' H' hv => ?_)
      · obtain ⟨pw, y3, rfl, rfl, p0, p1⟩ := hv
        by_cases hpm : pw < m
        · refine s_set (ev_if (et_eq (et_t (ev_lt (ev_v 4) (ev_v 1))) (decide_eq_true hpm)) (fun _ => ev_mul (ev_v 4) (ev_v 5) (cm (by omega))) fun z => nomatch z) ⟨pw * b, some (.int (i : Int)), rfl, rfl, Int.mul_pos p0 (by omega), ?_⟩
          have : pw * b ≤ 10 ^ 30 * 10 := Int.mul_le_mul (by omega) b1 (by omega) (by omega)
          omega
        · exact s_set (ev_if (et_eq (et_t (ev_lt (ev_v 4) (ev_v 1))) (decide_eq_false hpm)) (fun z => nomatch z) fun _ => ev_v 4) ⟨pw, some (.int (i : Int)), rfl, rfl, p0, p1⟩
      · obtain ⟨pw, y3, rfl, rfl, p0, p1⟩ := hv
        -- figures
        refine q_setW (w_ten (w_take (ea_2 (ev_v 0) ev_c) ok2 (by omega) fun r3 ds3 e0 e1 ok3 => ⟨r3.toNat, by rw [Int.toNat_of_nonneg e0], by omega, ?_⟩) (mono_take (ea_2 (ev_v 0) ev_c) fun Q z => ?_))
        · have hfig : (0 : Int) < 10 ^ r3.toNat := Int.pow_pos (by omega)
          generalize (10 : Int) ^ r3.toNat = fig at hfig
          -- some
          refine q_setW (w_lst (w_cons (w_take (ea_2 (ev_v 0) ev_c) ok3 (by omega) fun v1 ds4 a0 a1 ok4 => w_cons (w_take (ea_2 (ev_v 0) ev_c) ok4 (by omega) fun v2 ds5 a2 a3 ok5 => ?_))))
          refine w_cons (w_op (w_op (w_v 4 (w_take (ea_2 (ev_v 0) ev_c) ok5 (by omega) fun v3 ds6 a4 a5 ok6 => ⟨_, _, rfl, rfl, _, _, rfl, rfl, ?_⟩))))
          refine w_one (w_ev (ev_mod (ev_v 2) (ev_v 6) hfig) ⟨(by show 4 ≤ sizeLine; decide), fun p2 hp2 => ?_⟩)
          obtain ⟨hq1, hq2⟩ := none_upd hp2
          refine q_setW (w_fg (w_op (w_v 7 (w_lst (ea_3 (ev_mod (ev_v 2) (ev_add (ev_v 1) ev_c) (by omega)) (ev_mod (ev_v 2) (ev_add (ev_v 1) ev_c) (by omega)) (ev_v 1) _ ⟨(by show 3 ≤ sizeLine; decide), fun p3 hp3 => ?_⟩)))))
          obtain ⟨hr1, hr2⟩ := none_upd hp3
          refine ⟨p2, p3, _, _, rfl, rfl, by rw [upd_ne (Ne.symm hr2), upd_same], upd_same, (by show 4 + 3 ≤ sizeLine; decide), fun p4 hp4 => ?_⟩
          obtain ⟨hs1, hs2⟩ := none_upd hp4
          obtain ⟨hs3, hs4⟩ := none_upd hs1
          obtain ⟨hs5, hs6⟩ := none_upd hs3
          refine ⟨_, fg_newL hs1 (ex_upd hs1 (ex_new hp3)) upd_same, ?_⟩
          refine s_retW (w_cb (w_cons (w_ev ev_c (w_one (w_cb (w_cons (w_v 1 (w_one (w_op (w_v 7 ?_))))))))))
          refine w_call (ea_2 (ev_v 0) ev_c) ⟨inferInstance, a, ds6, 7, rfl, by rw [upd_ne (Ne.symm hs6), upd_ne (Ne.symm hq2), upd_same], ok6, by omega, fun r4 ds7 c0 c1 ok7 => ?_⟩
          refine ⟨p4, _, r4, _, rfl, rfl, sq_at (by rw [upd_ne hs6, upd_same]), at_of (j := r4.toNat) (by omega) (List.getElem?_eq_getElem (by show r4.toNat < 7; omega)), ?_⟩
          have hint : ∃ z : Int, ([V.int v1, .int v2, .int (pw + v3 - 1), .int (f % fig)] ++ [V.int (f % (m + 1)), .int (f % (m + 1)), .int m])[r4.toNat]'(by show r4.toNat < 7; omega) = .int z := by
            rcases (by omega : r4.toNat = 0 ∨ r4.toNat = 1 ∨ r4.toNat = 2 ∨ r4.toNat = 3 ∨ r4.toNat = 4 ∨ r4.toNat = 5 ∨ r4.toNat = 6) with z | z | z | z | z | z | z <;> simp only [z] <;> exact ⟨_, rfl⟩
          obtain ⟨z, hz⟩ := hint
          rw [hz]
          refine ⟨m, z, rfl, 0, _, rfl, ?_⟩
          refine ⟨upd H a (.lst (ds7.map V.int)), fg_mutL ha (fun c u hc hu => ?_) upd_same, q _ ds7 ?_ ?_ ok7⟩
          · have hcp4 : c ≠ p4 := fun e => by rw [e, hs5] at hu; cases hu
            have hcp2 : c ≠ p2 := fun e => by rw [e, hq1] at hu; cases hu
            rw [upd_ne hc, upd_ne hcp4, upd_ne hcp2, upd_ne hc]; exact hu
          · split <;> omega
          · split <;> (try split) <;> omega
        · obtain ⟨v, e, z2⟩ := z
          cases e
          exact z2
/-- draws that are one's own -/
theorem Own.take {K : PySem.W.Frag} {B H : Hp} {L : List (Addr × List V)} {p : Addr} {ds : List Int} {m : Int} {Q : VK} {E : XK} (o : Own B L H) (i : Nat) (h : L[i]? = some (p, ds.map V.int)) (ok : DrOk ds) (m0 : 0 < m)
    (k : ∀ (r : Int) (ds' : List Int) (H2 : Hp), 0 ≤ r ∧ r < m → DrOk ds' → Own B (L.set i (p, ds'.map V.int)) H2 → Q (.int r) H2) : sp_law_take K ([.ref p, .int m] ++ []) H Q E :=
  ⟨o.nod, p, ds, m, rfl, o.atI i h, ok, m0, fun r ds' h0 h1 ok' => k r ds' _ ⟨h0, h1⟩ ok' (o.mut i h)⟩
theorem Own.numberC {K : PySem.W.Frag} {B H : Hp} {L : List (Addr × List V)} {p : Addr} {ds : List Int} {m : Int} {Q : VK} {E : XK} (o : Own B L H) (i : Nat) (h : L[i]? = some (p, ds.map V.int)) (ok : DrOk ds) (m0 : 0 < m ∧ m ≤ 10 ^ 30)
    (k : ∀ (r : Nat) (ds' : List Int) (H2 : Hp), (r : Int) ≤ m → DrOk ds' → Own B (L.set i (p, ds'.map V.int)) H2 → Q (.int (r : Int)) H2) : sp_law_number K ([.ref p, .int m] ++ []) H Q E :=
  ⟨o.nod, p, ds, m, rfl, o.atI i h, ok, m0.1, m0.2, fun r ds' h0 h1 ok' => by
    obtain ⟨n, rfl⟩ : ∃ n : Nat, r = (n : Int) := ⟨r.toNat, by omega⟩
    exact k n ds' _ h1 ok' (o.mut i h)⟩
end Px
set_option linter.all false
set_option maxHeartbeats 1000000
namespace MA
/-! ### one prime more, place by place -/
structure Gr (r L : List Nat) (p b : Nat) (F : List Nat) (k : Nat) : Prop where
  nd : F.Nodup
  made : ∀ y ∈ F, Mk (p :: r) y ∧ y ≤ b
  hL : ∀ y ∈ L, y ∈ F
  done : ∀ j x, j < k → F[j]? = some x → x * p ≤ b → x * p ∈ F
  from_ : ∀ y ∈ F, y ∈ L ∨ ∃ j x, j < k ∧ F[j]? = some x ∧ y = x * p
theorem Gr.start {r L : List Nat} {p b : Nat} (h : IsAll r b L) : Gr r L p b L 0 := ⟨h.1, fun y hy => ⟨mk_mono (fun _ z => List.mem_cons_of_mem _ z) ((h.2 y).mp hy).1, ((h.2 y).mp hy).2⟩, fun _ h => h, fun j x h => by omega, fun y hy => .inl hy⟩
theorem Gr.stay {r L F : List Nat} {p b k x : Nat} (g : Gr r L p b F k) (hx : F[k]? = some x) (h : ¬ x * p ≤ b) : Gr r L p b F (k + 1) := ⟨g.nd, g.made, g.hL, fun j y hj hy hb => by
  by_cases e : j = k
  · subst e; rw [hx] at hy; cases hy; exact absurd hb h
  · exact g.done j y (by omega) hy hb, fun y hy => by
  rcases g.from_ y hy with z | ⟨j, x, h1, h2, h3⟩
  · exact .inl z
  · exact .inr ⟨j, x, by omega, h2, h3⟩⟩
theorem Gr.grow {r L F : List Nat} {p b k x : Nat} (g : Gr r L p b F k) (gd : Good (p :: r)) (h0 : IsAll r b L) (hx : F[k]? = some x) (h : x * p ≤ b) : Gr r L p b (F ++ [x * p]) (k + 1) := by
  have hk := (List.getElem?_eq_some_iff.mp hx).1
  have hp := gd.head
  have keep : ∀ j y, F[j]? = some y → (F ++ [x * p])[j]? = some y := fun j y hj => by rw [List.getElem?_append_left (List.getElem?_eq_some_iff.mp hj).1]; exact hj
  refine ⟨?_, fun y hy => ?_, fun y hy => List.mem_append_left _ (g.hL y hy), fun j y hj hy hb => ?_, fun y hy => ?_⟩
  · rw [List.nodup_append]
    refine ⟨g.nd, by simp, fun a ha c hc e => ?_⟩
    rw [List.mem_singleton] at hc
    subst e hc
    rcases g.from_ _ ha with z | ⟨j, x', h1, h2, h3⟩
    · exact gd.ndvd ((h0.2 _).mp z).1 ⟨x, Nat.mul_comm _ _⟩
    · have e : x = x' := Nat.eq_of_mul_eq_mul_right (by omega) h3
      subst e
      have := (List.getElem?_inj (by have := (List.getElem?_eq_some_iff.mp h2).1; omega) g.nd).mp (h2.trans hx.symm)
      omega
  · rcases List.mem_append.mp hy with z | z
    · exact g.made y z
    · rw [List.mem_singleton] at z
      subst z
      exact ⟨by rw [Nat.mul_comm]; exact .mul List.mem_cons_self (g.made x (List.mem_of_getElem? hx)).1, h⟩
  · by_cases hjk : j < k
    · have hj' : j < F.length := by omega
      rw [List.getElem?_append_left hj'] at hy
      exact List.mem_append_left _ (g.done j y hjk hy hb)
    · have e : j = k := by omega
      subst e
      rw [List.getElem?_append_left hk, hx] at hy
      cases hy
      exact List.mem_append_right _ (by simp)
  · rcases List.mem_append.mp hy with z | z
    · rcases g.from_ y z with z | ⟨j, x', h1, h2, h3⟩
      · exact .inl z
      · exact .inr ⟨j, x', by omega, keep j x' h2, h3⟩
    · exact .inr ⟨k, x, by omega, keep k x hx, List.mem_singleton.mp z⟩
theorem Gr.len {r L F : List Nat} {p b k : Nat} (g : Gr r L p b F k) : F.length ≤ cnt (p :: r) b := cnt_le g.nd g.made
theorem Gr.fin {r L F : List Nat} {p b : Nat} (g : Gr r L p b F F.length) (gd : Good (p :: r)) (h0 : IsAll r b L) : IsAll (p :: r) b F := MA.grow gd h0 g.nd g.made g.hL fun x hx hb => by
  obtain ⟨j, hj⟩ := List.mem_iff_getElem?.mp hx
  exact g.done j x (List.getElem?_eq_some_iff.mp hj).1 hj hb
/-! ### the rows' first part, prime by prime -/
theorem take_perm {row : List Nat} {i p : Nat} (h : row[i]? = some p) : (row.take (i + 1)).Perm (p :: row.take i) := by
  rw [List.take_add_one, h]
  exact List.perm_append_comm
theorem take_good {row : List Nat} {i p : Nat} (g : Good row) (h : row[i]? = some p) : Good (p :: row.take i) := (g.sub (List.take_sublist (i + 1) row)).perm (take_perm h).symm
theorem take_all {row F : List Nat} {i p b : Nat} (h : row[i]? = some p) (a : IsAll (p :: row.take i) b F) : IsAll (row.take (i + 1)) b F := a.congr fun q => (take_perm h).symm.mem_iff
theorem take_cnt {row : List Nat} {i p b : Nat} (h : row[i]? = some p) : cnt (p :: row.take i) b ≤ cnt row b := cnt_row fun q hq => List.mem_of_mem_take ((take_perm h).symm.mem_iff.mp hq)
/-! ### powers counted -/
theorem pwl_div {p b x : Nat} (hx : 0 < x) (hp : 2 ≤ p) : ∀ y, 0 < y → (pwl p b (x * y)).length = (pwl p (b / x) y).length := by
  intro y
  induction y using pwl.induct p (b / x) with
  | case1 y h ih =>
    intro hy
    have h1 : x * y ≤ b := by rw [Nat.mul_comm]; exact (Nat.le_div_iff_mul_le hx).mp h.2.2
    rw [pwl_yes hp hy h.2.2, pwl_yes hp (Nat.mul_pos hx hy) h1, List.length_cons, List.length_cons, Nat.mul_assoc, ih (Nat.mul_pos hy (by omega))]
  | case2 y h =>
    intro hy
    have h1 : ¬ y ≤ b / x := fun z => h ⟨hp, hy, z⟩
    have h2 : ¬ x * y ≤ b := fun z => h1 ((Nat.le_div_iff_mul_le hx).mpr (by rw [Nat.mul_comm]; exact z))
    rw [pwl_no (by omega), pwl_no (by omega)]
theorem pwl_div1 {p b x : Nat} (hx : 0 < x) (hp : 2 ≤ p) : (pwl p b x).length = (pwl p (b / x) 1).length := by
  have := pwl_div (b := b) hx hp 1 (by omega)
  rwa [Nat.mul_one] at this
/-! ### next, last -/
structure Gn (p b x y : Nat) : Prop where
  pw : ∃ k, y = x * p ^ k
  gt : b < y * p
  le : x ≤ b → y ≤ b
theorem Gn.ge {p b x y : Nat} (g : Gn p b x y) (hp : 2 ≤ p) : x ≤ y := by
  obtain ⟨k, rfl⟩ := g.pw
  exact Nat.le_mul_of_pos_right _ (Nat.pow_pos (by omega))
/-- the least power that is enough -/
theorem Gn.least {p b x y : Nat} (g : Gn p b x y) (hp : 2 ≤ p) (hxb : x ≤ b) (hx : 0 < x) {k : Nat} (h : b < x * p ^ k) : y * p ≤ x * p ^ k := by
  obtain ⟨⟨j, rfl⟩, gt, le⟩ := g
  have h1 := le hxb
  have hj : j < k := by
    rcases Nat.lt_or_ge j k with z | z
    · exact z
    · have : x * p ^ k ≤ x * p ^ j := Nat.mul_le_mul_left x (Nat.pow_le_pow_right (by omega) z)
      omega
  rw [Nat.mul_assoc, ← Nat.pow_succ]
  exact Nat.mul_le_mul_left x (Nat.pow_le_pow_right (by omega) hj)
theorem Gn.most {p b x y : Nat} (g : Gn p b x y) (hp : 2 ≤ p) (hx : 0 < x) {k : Nat} (h : x * p ^ k ≤ b) : x * p ^ k ≤ y := by
  obtain ⟨⟨j, rfl⟩, gt, le⟩ := g
  have hj : k ≤ j := by
    rcases Nat.lt_or_ge j k with z | z
    · have : x * p ^ (j + 1) ≤ x * p ^ k := Nat.mul_le_mul_left x (Nat.pow_le_pow_right (by omega) z)
      rw [Nat.pow_succ, ← Nat.mul_assoc] at this
      omega
    · exact z
  exact Nat.mul_le_mul_left x (Nat.pow_le_pow_right (by omega) hj)
theorem pow_le_self {x p k : Nat} (hp : 2 ≤ p) : x ≤ x * p ^ k := Nat.le_mul_of_pos_right _ (Nat.pow_pos (by omega))
/-- the best of all rests -/
theorem next_of {p : Nat} {r L : List Nat} {n b0 best : Nat} (g : Good (p :: r)) (hL : IsAll r b0 L) (h0 : Mk (p :: r) b0) (hb0 : n < b0) (hm : Mk (p :: r) best) (hg : n < best) (hle : best ≤ b0)
    (hall : ∀ x ∈ L, ∀ k, n < x * p ^ k → best ≤ x * p ^ k) : IsNext (p :: r) n best := ⟨hm, hg, fun m hmk hnm => by
  rcases Nat.lt_or_ge b0 m with z | z
  · omega
  · obtain ⟨k, x, rfl, hx⟩ := mk_cons.mp hmk
    exact hall x ((hL.2 x).mpr ⟨hx, Nat.le_trans (pow_le_self g.head) z⟩) k hnm⟩
theorem last_of {p : Nat} {r L : List Nat} {n best : Nat} (g : Good (p :: r)) (hL : IsAll r (n - 1) L) (hm : Mk (p :: r) best) (hg : best < n) (hall : ∀ x ∈ L, ∀ k, x * p ^ k ≤ n - 1 → x * p ^ k ≤ best) : IsLast (p :: r) n best := ⟨hm, hg, fun m hmk hnm => by
  obtain ⟨k, x, rfl, hx⟩ := mk_cons.mp hmk
  exact hall x ((hL.2 x).mpr ⟨hx, Nat.le_trans (pow_le_self (k := k) g.head) (by omega)⟩) k (by omega)⟩
theorem next_le {row : List Nat} {n m p : Nat} (h : IsNext row n m) (hn : Mk row n) (hp : p ∈ row) (h2 : 2 ≤ p) (hpos : 0 < n) : m ≤ n * p := h.le _ (by rw [Nat.mul_comm]; exact .mul hp hn) (by have : n * 2 ≤ n * p := Nat.mul_le_mul_left n h2; omega)
/-- a power of a prime of the row is never far -/
theorem next_far {row : List Nat} {n m p : Nat} (g : Good row) (h : IsNext row n m) (hp : p ∈ row) (hn : 0 < n) : m ≤ n * p := by
  have h2 := g.ge p hp
  have key : ∀ k, p ^ k ≤ n → ∃ j, p ^ j ≤ n ∧ n < p ^ (j + 1) := by
    intro k
    generalize e : n - p ^ k = d
    induction d using Nat.strongRecOn generalizing k with
    | ind d ih =>
      intro hk
      by_cases h3 : p ^ (k + 1) ≤ n
      · have h4 : p ^ k * 2 ≤ p ^ (k + 1) := by rw [Nat.pow_succ]; exact Nat.mul_le_mul_left _ h2
        have h5 : 0 < p ^ k := Nat.pow_pos (by omega)
        exact ih (n - p ^ (k + 1)) (by omega) (k + 1) rfl h3
      · exact ⟨k, hk, by omega⟩
  obtain ⟨j, h3, h4⟩ := key 0 (by rw [Nat.pow_zero]; exact hn)
  refine Nat.le_trans (h.le _ (mk_pow hp (j + 1)) h4) ?_
  rw [Nat.pow_succ]
  exact Nat.mul_le_mul_right p h3
/-! ### the first so many -/
def IsFst (row : List Nat) (m : Nat) (l : List Nat) : Prop := (m = 0 ∧ l = []) ∨ ∃ c, Mk row c ∧ cnt row c = m ∧ l = allL row c
theorem IsFst.len {row l : List Nat} {m : Nat} (h : IsFst row m l) : l.length = m := by
  rcases h with ⟨rfl, rfl⟩ | ⟨c, _, rfl, rfl⟩
  · rfl
  · rfl
theorem mk_inj {row : List Nat} {a b : Nat} (ha : Mk row a) (hb : Mk row b) (e : cnt row a = cnt row b) : a = b := by
  rcases Nat.lt_trichotomy a b with z | z | z
  · have := cnt_lt z hb; omega
  · exact z
  · have := cnt_lt z ha; omega
theorem IsFst.uniq {row l l' : List Nat} {m : Nat} (g : ∀ p ∈ row, 2 ≤ p) (h : IsFst row m l) (h' : IsFst row m l') : l = l' := by
  rcases h with ⟨rfl, rfl⟩ | ⟨c, h1, h2, rfl⟩
  · have := h'.len
    exact (List.length_eq_zero_iff.mp this).symm
  · rcases h' with ⟨rfl, rfl⟩ | ⟨c', h1', h2', rfl⟩
    · have := cnt_pos (row := row) (mk_pos g h1); omega
    · rw [mk_inj h1 h1' (h2.trans h2'.symm)]
theorem allL_last {row : List Nat} {c : Nat} (h : Mk row c) (h0 : 0 < c) : allL row c = allL row (c - 1) ++ [c] := by
  cases c with
  | zero => omega
  | succ c => exact allL_succ_yes h
theorem allL_next {row : List Nat} {n m : Nat} (h : IsNext row n m) : allL row m = allL row n ++ [m] := by
  have := h.gt
  rw [allL_last h.made (by omega), allL_gap (row := row) (a := n) (b := m - 1) (by omega) fun k h1 h2 hk => by have := h.le k hk h1; omega]
theorem get_lt {l : List Nat} (h : l.Pairwise (· < ·)) {i j x y : Nat} (hi : l[i]? = some x) (hj : l[j]? = some y) (hij : i < j) : x < y := by
  obtain ⟨h1, rfl⟩ := List.getElem?_eq_some_iff.mp hi
  obtain ⟨h2, rfl⟩ := List.getElem?_eq_some_iff.mp hj
  exact List.pairwise_iff_getElem.mp h i j h1 h2 hij
structure FS (row F pl : List Nat) (c : Nat) : Prop where
  mkc : Mk row c
  eq : F = allL row c
  len : pl.length = row.length
  ok : ∀ j p k : Nat, row[j]? = some p → pl[j]? = some k → ∃ x, F[k]? = some x ∧ c < x * p ∧ ∀ i y : Nat, i < k → F[i]? = some y → y * p ≤ c
theorem FS.start {row : List Nat} (g : ∀ p ∈ row, 2 ≤ p) : FS row [1] (List.replicate row.length 0) 1 := ⟨.one, by
  have : allL row 1 = allL row 0 ++ [1] := allL_succ_yes .one
  rw [this, show allL row 0 = [] from List.length_eq_zero_iff.mp (cnt_zero g)]; rfl, by simp, fun j p k h1 h2 => by
  rw [List.getElem?_replicate] at h2
  split at h2
  · cases h2
    have := g p (List.mem_of_getElem? h1)
    exact ⟨1, rfl, by omega, fun i y hi => by omega⟩
  · cases h2⟩
/-- the least of the products is the next one -/
theorem FS.next {row F pl : List Nat} {c m : Nat} (g : Good row) (f : FS row F pl c) (hm : ∃ j p k x : Nat, row[j]? = some p ∧ pl[j]? = some k ∧ F[k]? = some x ∧ m = x * p) (hle : ∀ j p k x : Nat, row[j]? = some p → pl[j]? = some k → F[k]? = some x → m ≤ x * p) : IsNext row c m := by
  obtain ⟨j, p, k, x, h1, h2, h3, rfl⟩ := hm
  obtain ⟨x', e1, e2, e3⟩ := f.ok j p k h1 h2
  rw [h3] at e1
  cases e1
  have hF : ∀ y ∈ F, Mk row y ∧ y ≤ c := fun y hy => by rw [f.eq] at hy; exact allL_mem.mp hy
  refine ⟨by rw [Nat.mul_comm]; exact .mul (List.mem_of_getElem? h1) (hF x (List.mem_of_getElem? h3)).1, e2, fun n hn hcn => ?_⟩
  have hc0 := mk_pos g.ge f.mkc
  obtain ⟨q, hq, n', rfl, hn'⟩ := mk_step hn (by omega)
  obtain ⟨i, hi⟩ := List.mem_iff_getElem?.mp hq
  have hil : i < pl.length := by rw [f.len]; exact (List.getElem?_eq_some_iff.mp hi).1
  obtain ⟨z, hz1, hz2, hz3⟩ := f.ok i q pl[i] hi (List.getElem?_eq_getElem hil)
  refine Nat.le_trans (hle i q pl[i] z hi (List.getElem?_eq_getElem hil) hz1) ?_
  rw [Nat.mul_comm q]
  refine Nat.mul_le_mul_right q ?_
  -- z ≤ n'
  rcases Nat.lt_or_ge c n' with h | h
  · have := (hF z (List.mem_of_getElem? hz1)).2; omega
  · have hmem : n' ∈ F := by rw [f.eq]; exact allL_mem.mpr ⟨hn', h⟩
    obtain ⟨t, ht⟩ := List.mem_iff_getElem?.mp hmem
    rcases Nat.lt_trichotomy t pl[i] with e | e | e
    · have := hz3 t n' e ht
      rw [Nat.mul_comm] at this
      omega
    · rw [e, hz1] at ht; cases ht; omega
    · have := get_lt (by rw [f.eq]; exact allL_pair _ _) hz1 ht e
      omega
theorem FS.step {row F pl pl' : List Nat} {c m : Nat} (f : FS row F pl c) (h : IsNext row c m) (hlen : pl'.length = pl.length) (hpl : ∀ j p k x : Nat, row[j]? = some p → pl[j]? = some k → F[k]? = some x → pl'[j]? = some (if x * p = m then k + 1 else k)) (hle : ∀ j p k x : Nat, row[j]? = some p → pl[j]? = some k → F[k]? = some x → m ≤ x * p) (g2 : ∀ p ∈ row, 2 ≤ p) : FS row (F ++ [m]) pl' m := by
  have eq : F ++ [m] = allL row m := by rw [allL_next h, f.eq]
  refine ⟨h.made, eq, by rw [hlen, f.len], fun j p k' h1 h2 => ?_⟩
  have hj : j < pl.length := by rw [f.len]; exact (List.getElem?_eq_some_iff.mp h1).1
  obtain ⟨x, e1, e2, e3⟩ := f.ok j p pl[j] h1 (List.getElem?_eq_getElem hj)
  have hp2 := g2 p (List.mem_of_getElem? h1)
  rw [hpl j p pl[j] x h1 (List.getElem?_eq_getElem hj) e1] at h2
  have hkl : pl[j] < F.length := (List.getElem?_eq_some_iff.mp e1).1
  have up : (F ++ [m]).Pairwise (· < ·) := by rw [eq]; exact allL_pair _ _
  have hx1 : (F ++ [m])[pl[j]]? = some x := by rw [List.getElem?_append_left hkl]; exact e1
  have old : ∀ i y, i < pl[j] → (F ++ [m])[i]? = some y → y * p ≤ c := fun i y hi hy => by
    rw [List.getElem?_append_left (by omega)] at hy
    exact e3 i y hi hy
  have hcm := h.gt
  by_cases e : x * p = m
  · rw [if_pos e] at h2
    cases h2
    have hl2 : pl[j] + 1 < (F ++ [m]).length := by simp; omega
    refine ⟨_, List.getElem?_eq_getElem hl2, ?_, fun i y hi hy => ?_⟩
    · have := get_lt up hx1 (List.getElem?_eq_getElem hl2) (by omega)
      have h5 := Nat.mul_lt_mul_of_pos_right this (show 0 < p by omega)
      omega
    · by_cases hi2 : i = pl[j]
      · subst hi2
        rw [hx1] at hy
        cases hy
        omega
      · have := old i y (by omega) hy
        omega
  · rw [if_neg e] at h2
    cases h2
    refine ⟨x, hx1, ?_, fun i y hi hy => ?_⟩
    · have := hle j p pl[j] x h1 (List.getElem?_eq_getElem hj) e1
      omega
    · have := old i y hi hy; omega
theorem FS.flen {row F pl : List Nat} {c : Nat} (f : FS row F pl c) : F.length = cnt row c := by rw [f.eq]; rfl
/-- the so-manieth is no greater than a bound to which there are so many -/
theorem fst_le {row : List Nat} {c m T : Nat} (hc : Mk row c) (h : cnt row c ≤ m) (hm : m ≤ cnt row T) : c ≤ T := by
  rcases Nat.lt_or_ge T c with z | z
  · have := cnt_lt z hc; omega
  · exact z
theorem Fits.lt {row : List Nat} {b : Nat} (f : Fits row b) : b < 2 ^ 70 := by unfold Fits at f; omega
theorem IsAll.sorted {row l : List Nat} {b : Nat} (h : IsAll row b l) {l' : List Nat} (p : l'.Perm l) (s : l'.Pairwise (· ≤ ·)) : l' = allL row b :=
  (h.of_perm p).eq ((s.and (h.of_perm p).1).imp fun {x y} z => by have := z.1; have := z.2; omega)
end MA
set_option Elab.async false
set_option linter.all false
set_option maxRecDepth 100000
set_option maxHeartbeats 4000000
namespace Px
open PySem L2 MA
local macro_rules | `(tactic| bv_omega) => `(tactic| first | assumption | omega | exact cm (by omega) | exact cd (by omega) | exact cp (by omega) | exact trivial)
local macro_rules | `(tactic| array_get_dec) => `(tactic| first
  | assumption
  | exact sq_up
  | exact Own.sqi (by assumption) 0 (by rfl)
  | exact Own.sqi (by assumption) 1 (by rfl)
  | exact Own.sqi (by assumption) 2 (by rfl)
  | exact Own.sqi (by assumption) 3 (by rfl)
  | exact Own.sqi (by assumption) 4 (by rfl)
  | exact Own.sq (by assumption) (by assumption)
  | exact sq_new (by assumption) (by assumption))
local macro_rules | `(tactic| clean_wf) => `(tactic| first
  | with_reducible exact ev_c
  | (with_reducible apply ev_v') <;> rfl
  | (with_reducible apply ev_add) <;> clean_wf
  | (with_reducible apply ev_sub) <;> clean_wf
  | (with_reducible apply ev_mul) <;> clean_wf
  | (with_reducible apply ev_mod) <;> clean_wf
  | (with_reducible apply ev_div) <;> clean_wf
  | (with_reducible apply ev_pow) <;> clean_wf
  | (with_reducible apply ev_neg) <;> clean_wf
  | (with_reducible apply ev_lt) <;> clean_wf
  | (with_reducible apply ev_le) <;> clean_wf
  | (with_reducible apply ev_gt) <;> clean_wf
  | (with_reducible apply ev_ge) <;> clean_wf
  | (with_reducible apply ev_eqi) <;> clean_wf
  | (with_reducible apply ev_nei) <;> clean_wf
  | (with_reducible apply ev_len) <;> clean_wf
  | (with_reducible apply ev_ixL) <;> clean_wf
  | (with_reducible apply ev_min) <;> clean_wf
  | (with_reducible apply ev_max) <;> clean_wf
  | (with_reducible apply ev_abs) <;> clean_wf
  | (with_reducible apply ev_intB) <;> clean_wf
  | (with_reducible apply ea_1) <;> clean_wf
  | (with_reducible apply ea_2) <;> clean_wf
  | (with_reducible apply ea_3) <;> clean_wf
  | with_reducible exact ea_nil
  | (with_reducible apply ea_cons) <;> clean_wf
  | with_reducible exact el_nil
  | (with_reducible apply ep_lt) <;> clean_wf
  | (with_reducible apply ep_le) <;> clean_wf
  | (with_reducible apply ep_gt) <;> clean_wf
  | (with_reducible apply ep_ge) <;> clean_wf
  | (with_reducible apply ep_eqi) <;> clean_wf
  | (with_reducible apply ep_nei) <;> clean_wf
  | (with_reducible apply ep_not) <;> clean_wf
  | ((with_reducible apply ep_and) <;> first | (intro _; clean_wf; done) | clean_wf)
  | ((with_reducible apply ep_or) <;> first | (intro _; clean_wf; done) | clean_wf)
  | (with_reducible apply et_t) <;> clean_wf
  | (with_reducible apply eo_is) <;> clean_wf
  | with_reducible exact eo_no
  | array_get_dec
  | bv_omega
  | rfl
  | skip)
local macro_rules | `(tactic| symm_saturate) => `(tactic| first
  | ((with_reducible apply q_set); (focus (clean_wf; done)))
  | ((with_reducible apply s_set); (focus (clean_wf; done)))
  | ((with_reducible apply q_aug (hx := rfl)); (focus (clean_wf; done)))
  | ((with_reducible apply s_aug (hx := rfl)); (focus (clean_wf; done)))
  | ((with_reducible apply q_augC (hx := rfl)); (focus (clean_wf; done)))
  | ((with_reducible apply s_augC (hx := rfl)); (focus (clean_wf; done))))
local macro_rules | `(tactic| subst_eqs) => `(tactic| repeat' (first
  | with_reducible apply w_c
  | ((with_reducible apply w_v'); (focus rfl))
  | with_reducible apply w_op
  | with_reducible apply w_cb
  | with_reducible apply w_cons
  | with_reducible apply w_nil
  | with_reducible apply r_add
  | with_reducible apply r_sub
  | ((with_reducible apply r_mul); (focus (bv_omega; done)))
  | ((with_reducible apply r_div); (focus (bv_omega; done)))
  | ((with_reducible apply r_mod); (focus (bv_omega; done)))
  | ((with_reducible apply r_pow); (focus (bv_omega; done)))
  | with_reducible apply r_lt
  | with_reducible apply r_le
  | with_reducible apply r_gt
  | with_reducible apply r_ge
  | with_reducible apply r_min
  | with_reducible apply r_max
  | with_reducible apply r_intB
  | ((with_reducible apply r_len); (focus (array_get_dec; done)))
  | with_reducible apply w_callW
  | with_reducible apply q_setW
  | with_reducible apply s_setW
  | with_reducible apply s_retW))

/-! ### comprehensions over zip -/
def LcAt (J : It) (g : TG) (tt : TT) (te : TE) (vs : List Nat) (σ : L2.St) (Q : VK) (H1 : Hp) : Prop := ∀ D, H1 D = none → ∃ W : Nat → Nat → Hp → Prop, (∃ m, W 0 m (upd H1 D (.lst []))) ∧ ∀ i m H, W i m H →
  (J.stop i H ∧ Q (.ref D) H) ∨ (J.go i H ∧ ∃ Nx : Hp → Prop, (∀ H', Nx H' → ∃ m', m' < m ∧ W (i + 1) m' H') ∧ ∀ x H', J.yld i H x H' → g x (wipe σ vs) H' fun σ2 H2 => wipe σ2 vs = wipe σ vs ∧ tt σ2 H2 fun b H3 =>
    if b = true then te σ2 H3 fun y H4 => ∃ acc, H4 D = some (.lst acc) ∧ acc.length < sizeLine ∧ Nx (upd H4 D (.lst (acc ++ [y]))) else Nx H3)
section
variable {K : PySem.W.Frag} {σ : L2.St} {H H1 : Hp} {ta : TA} {tt : TT} {te : TE} {vs : List Nat} {Q : VK} {a b : Addr} {xs ys : List V} {n1 n2 : Nat}
theorem w_lcZ {g : TG} (h : ta σ H fun us H1 => ∃ a b xs ys, us = [.ref a, .ref b] ∧ SqL K H1 a xs ∧ SqL K H1 b ys ∧ LcAt (Itz K a b) g tt te vs σ Q H1) : tLc (iZip K ta) g tt te vs σ H Q := h
theorem lcat_zip (Pv : Addr → Nat → Hp → Prop) (h0 : ∀ D, H1 D = none → Pv D 0 (upd H1 D (.lst []))) (hl : ∀ D i H', H1 D = none → Pv D i H' → SqL K H' a xs ∧ SqL K H' b ys) (hw : ∀ x y, wipe (((wipe σ vs).set n1 (some x)).set n2 (some y)) vs = wipe σ vs)
    (hs : ∀ D i x y T H', H1 D = none → xs[i]? = some x → ys[i]? = some y → Pv D i H' → H' T = none → tt (((wipe σ vs).set n1 (some x)).set n2 (some y)) (upd H' T (.tup [x, y])) fun c H3 =>
      if c = true then te (((wipe σ vs).set n1 (some x)).set n2 (some y)) H3 fun v H4 => ∃ acc, H4 D = some (.lst acc) ∧ acc.length < sizeLine ∧ Pv D (i + 1) (upd H4 D (.lst (acc ++ [v]))) else Pv D (i + 1) H3)
    (hd : ∀ D H', H1 D = none → Pv D (min xs.length ys.length) H' → Q (.ref D) H') : LcAt (Itz K a b) (gTup K 2 (gCons (gName n1) (gCons (gName n2) gNil))) tt te vs σ Q H1 := fun D hD =>
  lc_it (walk_zip (K := K) (a := a) (b := b) (xs := xs) (ys := ys) rfl) (Pv D) (h0 D hD) (fun i H' _ p => hl D i H' hD p) (fun i v H' H'' hi p y => by
    obtain ⟨T, x, y, rfl, hT, rfl, e1, e2⟩ := y
    exact ⟨T, _, rfl, st_at upd_same, rfl, _, _, rfl, _, _, rfl, rfl, hw x y, hs D i x y T H' hD e1 e2 p hT⟩) (fun H' p => hd D H' hD p)
end
section
variable {K : PySem.W.Frag} {σ : L2.St} {H H1 : Hp} {te tl : TE} {tt : TT} {vs : List Nat} {Q : VK} {a b : Addr} {n : Nat} {g : TG}
theorem w_lcLW (h : tl σ H fun x H1 => ∃ a, x = .ref a ∧ (∃ xs, SqL K H1 a xs) ∧ LcAt (Itl K a) g tt te vs σ Q H1) : tLc (iList K tl) g tt te vs σ H Q := h
/-- [te for i in ns], ns a list of ints that stands at a -/
theorem lcat_map {ns : List Int} (f : Int → Int) (hx : SqL K H1 a (ns.map V.int)) (hz : ns.length ≤ 16000000) (hw : ∀ x, wipe ((wipe σ vs).set n (some x)) vs = wipe σ vs)
    (he : ∀ i ∈ ns, ∀ D acc, H1 D = none → Ev te ((wipe σ vs).set n (some (.int i))) (upd H1 D (.lst acc)) (.int (f i))) (q : ∀ D, H1 D = none → Q (.ref D) (upd H1 D (.lst ((ns.map f).map V.int)))) : LcAt (Itl K a) (gName n) tYes te vs σ Q H1 := by
  obtain ⟨_, e, _, z⟩ := el_lcI (K := K) (H := H1) (tl := fun _ H Q => Q (.ref a) H) (t := tYes) (fun _ => true) f (fun _ z => z) hx hz hw (fun i hi D acc hD => et_yes) (fun i hi _ D acc hD => he i hi D acc hD) Q fun D hD => by
    rw [List.filter_eq_self.mpr (fun _ _ => rfl)]
    exact q D hD
  cases e
  exact z
/-- [te for i in ns if p(i)] -/
theorem lcat_filter {ns : List Int} (p : Int → Bool) (f : Int → Int) (hx : SqL K H1 a (ns.map V.int)) (hz : ns.length ≤ 16000000) (hw : ∀ x, wipe ((wipe σ vs).set n (some x)) vs = wipe σ vs)
    (ht : ∀ i ∈ ns, ∀ D acc, H1 D = none → EvT tt ((wipe σ vs).set n (some (.int i))) (upd H1 D (.lst acc)) (p i)) (he : ∀ i ∈ ns, p i = true → ∀ D acc, H1 D = none → Ev te ((wipe σ vs).set n (some (.int i))) (upd H1 D (.lst acc)) (.int (f i))) (q : ∀ D, H1 D = none → Q (.ref D) (upd H1 D (.lst (((ns.filter p).map f).map V.int)))) : LcAt (Itl K a) (gName n) tt te vs σ Q H1 := by
  obtain ⟨_, e, _, z⟩ := el_lcI (K := K) (H := H1) (tl := fun _ H Q => Q (.ref a) H) (t := tt) p f (fun _ z => z) hx hz hw ht he Q q
  cases e
  exact z
end
/-! ### rows -/
def sp_is_whole (K : PySem.W.Frag) : Sp := fun vs H Q _ => Nod H ∧ ∃ i : Int, vs = [.int i] ∧ Q (.bl true) H
/-- slots: thing -/
abbrev n_is_whole : List Str := ["thing"]
def t_is_whole (K : PySem.W.Frag) : TS := (sFg (tRet (tAndV (tCB (rIsi K) (tCons (tVar 0) (tCons (tC (.ty "int")) tNil))) (tNotV (tCB (rIsi K) (tCons (tVar 0) (tCons (tC (.ty "bool")) tNil)))))))
theorem r_is_whole {K : PySem.W.Frag} {vs : List V} {H : Hp} {Q : VK} {E : XK} (h : sp_is_whole K vs H Q E) : t_is_whole K { nx := fun _ H' => Q .non H', rt := Q } (start n_is_whole vs) H := by
  obtain ⟨nd, i, rfl, q⟩ := h
  exact fg_body (s_ret (ev_and (ev_isi (ev_v 0) ev_c (.ty "int") (.base (.int i)) (kit_ty (r := true) (by decide +kernel))) fun _ => ev_not (ev_isi (ev_v 0) ev_c (.ty "bool") (.base (.int i)) (kit_ty (r := false) (by decide +kernel)))) ⟨H, fg_same ex_refl, q⟩)
def sp_is_row (K : PySem.W.Frag) : Sp := fun vs H Q _ => Nod H ∧ ∃ (a : Addr) (row : List Nat), vs = [.ref a] ∧ H a = some (.lst (zv row)) ∧ Rw row ∧ row ≠ [] ∧ Q (.bl true) H
def PrAt (K : PySem.W.Frag) (aP : Addr) : Prop := ∀ H : Hp, SqL K H aP (zv PR)
/-- slots: thing one further -/
abbrev n_is_row : List Str := ["thing", "one", "further"]
def t_is_row (K : PySem.W.Frag) (a_PRIMES : Addr) : TS := (sFg (tSeq (tIfS (tOr (tNot (tB (tCB (rIsi K) (tCons (tVar 0) (tCons (tC (.ty "list")) tNil))))) (tNot (tTest (tChain oLe oLe (tC (.int 1)) (tCB (cLen K) (tCons (tVar 0) tNil)) (tC (.int 6)))))) (tRet (tC (.bl false))) tNext)
  (tSeq (tIfS (bFg (tTest (tOp (rNeD K) (tLc (iList K (tVar 0)) (gName 1) (tOr (tNot (tB (tCall (sp_is_whole K) [] E0 (tCons (tVar 1) tNil)))) (tTest (tOp (rIn K true) (tVar 1) (tC (.ref a_PRIMES))))) (tVar 1) [1]) (tLst tNil)))) (tRet (tC (.bl false))) tNext)
  (tRet (tFg (tOp (rEqD K) (tFg (tLc (iZip K (tCons (tVar 0) (tCons (tSl (rSlL K) (tVar 0) (tPart (tC (.int 1))) tNoPart) tNil))) (gTup K 2 (gCons (gName 1) (gCons (gName 2) gNil))) (tTest (tOp oLe (tVar 2) (tVar 1))) (tC (.int 1)) [1, 2])) (tLst tNil)))))))
theorem inV_iff {l : List Nat} {p : Nat} : inV (.int (p : Int)) (zv l) = decide (p ∈ l) := by
  induction l with
  | nil => rfl
  | cons a l ih =>
    show (eqV (.int (a : Int)) (.int (p : Int)) || inV (.int (p : Int)) (zv l)) = _
    rw [ih]
    have e : eqV (.int (a : Int)) (.int (p : Int)) = decide (a = p) := by
      show decide ((a : Int) = (p : Int)) = _
      exact decide_eq_decide.mpr (by omega)
    rw [e]
    by_cases h : a = p
    · subst h; simp
    · have h' : ¬ p = a := fun z => h z.symm
      simp [h, h']
theorem zv_0 {p : Nat} {r : List Nat} : atI (zv (p :: r)) 0 = some (.int (p : Int)) := zv_at (i := 0) (l := p :: r) (by simp)
theorem zv_flat (l : List Nat) : (zv l).all flatV = true := by
  rw [List.all_eq_true]
  intro x hx
  obtain ⟨i, _, rfl⟩ := mem_int hx
  rfl
theorem cut_fromN (l : List Nat) (k : Nat) : cutV (zv l) (some (k : Int)) none = zv (l.drop k) := by rw [cut_from]; simp
theorem cut_toN (l : List Nat) (k : Nat) : cutV (zv l) none (some (k : Int)) = zv (l.take k) := by rw [cut_to]; simp
theorem get_up {l : List Nat} (h : l.Pairwise (· < ·)) {i x y : Nat} (hi : l[i]? = some x) (hj : (l.drop 1)[i]? = some y) : x < y := by
  rw [List.getElem?_drop] at hj
  exact get_lt h hi hj (by omega)
theorem r_is_row {K : PySem.W.Frag} {aP : Addr} (hP : PrAt K aP) {vs : List V} {H : Hp} {Q : VK} {E : XK} (h : sp_is_row K vs H Q E) : t_is_row K aP { nx := fun _ H' => Q .non H', rt := Q } (start n_is_row vs) H := by
  obtain ⟨nd, a, row, rfl, ha, w, hne, q⟩ := h
  have sa : SqL K H a (zv row) := sq_at ha
  have hl := w.le
  have hl0 : 0 < row.length := List.length_pos_iff.mpr hne
  refine fg_body (q_never (ep_or (ep_not (ep_b (ev_isi (ev_v 0) ev_c (.ty "list") (.base (.lst ha)) (kit_ty (r := true) (by decide +kernel))))) fun _ => ep_not (ep_chain ev_c (ev_len (ev_v 0) sa) rv_0 (fun _ => ev_c) fun _ => rv_0)) (by rw [zv_len]; simp; omega) ?_)
  refine q_when (b := false) (et_eq (et_nonilN (ns := ((zl row).filter fun _ => false).map fun i => i) (el_lcI (fun _ => false) (fun i => i) (ev_v 0) sa (by rw [zl_len]; omega) (fun _ => rfl) (fun i hi D acc hD => ?_) fun i hi z => nomatch z)) (by simp)) (fun z => nomatch z) fun _ => ?_
  · obtain ⟨p, hp, rfl⟩ := List.mem_map.mp hi
    refine ep_no (ep_or (ep_not (ep_b (ev_call (v := .bl true) (ea_1 (ev_v 1)) fun Q q => ⟨inferInstance, _, rfl, q⟩))) fun _ => ep_of (et_t (ev_op (z := .bl false) (ev_v 1) ev_c fun Q q => ⟨aP, zv PR, rfl, .inl (hP _), rfl, zv_flat _, ?_⟩))) (by simp)
    rw [inV_iff, decide_eq_true (w.mem p hp)]
    exact q
  · refine s_ret (v := .bl true) (ev_fg fun Q q => w_op (el_fg (fun Q q => w_lcZ ?_) _ fun p hp => el_nil _ fun p2 hp2 => rv_eqI (ns := []) (ms := []) (sq_new hp2 sq_up) sq_up _ (q _ (ex_upd (none_upd hp2).1 (ex_new hp))))) ⟨H, fg_same ex_refl, q⟩
    refine w_cons (w_v 0 (w_one (w_evL (el_sl (ev_v 0) (eo_is ev_c) eo_no sa) fun p1 hp1 => ?_)))
    have o : Own H [(p1, zv (row.drop 1))] (upd H p1 (.lst (cutV (zv row) (some 1) none))) := by rw [show (1 : Int) = ((1 : Nat) : Int) from rfl, cut_fromN]; exact Own.nil.new hp1
    refine ⟨a, p1, zv row, zv (row.drop 1), rfl, o.sq sa, o.sqi 0 rfl, lcat_zip (fun D i H' => Own H [(D, []), (p1, zv (row.drop 1))] H') (fun D hD => o.new hD) (fun D i H' hD o => ⟨o.sq sa, o.sqi 1 rfl⟩) (fun x y => rfl) (fun D i x y T H' hD hx hy o hT => ?_) fun D H' hD o => q D H' (o.offI 0 rfl) o.ex (o.atI 0 rfl)⟩
    simp only [List.getElem?_map] at hx hy
    cases e1 : row[i]? with
    | none => rw [e1] at hx; cases hx
    | some x' =>
      cases e2 : (row.drop 1)[i]? with
      | none => rw [e2] at hy; cases hy
      | some y' =>
        rw [e1] at hx
        rw [e2] at hy
        cases hx
        cases hy
        have := get_up w.up e1 e2
        exact ep_no (ep_le (i := (y' : Int)) (j := (x' : Int)) (ev_v 2) (ev_v 1)) (by omega) _ (iteF (o.tup hT))
def sp_need_row (K : PySem.W.Frag) : Sp := fun vs H Q _ => Nod H ∧ ∃ (a : Addr) (row : List Nat), vs = [.ref a] ∧ H a = some (.lst (zv row)) ∧ Rw row ∧ row ≠ [] ∧ Q .non H
/-- slots: row -/
abbrev n_need_row : List Str := ["row"]
def t_need_row (K : PySem.W.Frag) : TS := (sFg (tIfS (tNot (tB (tCall (sp_is_row K) [] E0 (tCons (tVar 0) tNil)))) tNever tNext))
theorem r_need_row {K : PySem.W.Frag} {vs : List V} {H : Hp} {Q : VK} {E : XK} (h : sp_need_row K vs H Q E) : t_need_row K { nx := fun _ H' => Q .non H', rt := Q } (start n_need_row vs) H := by
  obtain ⟨nd, a, row, rfl, ha, w, hne, q⟩ := h
  exact fg_body (s_whenP (ep_not (ep_b (ev_call (v := .bl true) (ea_1 (ev_v 0)) fun Q q => ⟨nd, a, row, rfl, ha, w, hne, q⟩))) (fun z => absurd rfl z) fun _ => ⟨H, fg_same ex_refl, q⟩)
/-! ### made, not made -/
def sp_is_made (K : PySem.W.Frag) : Sp := fun vs H Q _ => Nod H ∧ ∃ (a : Addr) (row : List Nat) (n : Nat), vs = [.ref a, .int (n : Int)] ∧ SqL K H a (zv row) ∧ Rw row ∧ 0 < n ∧ Q (.bl (decide (stripAll row n = 1))) H
/-- slots: row number prime -/
abbrev n_is_made : List Str := ["row", "number", "prime"]
def t_is_made (K : PySem.W.Frag) : TS := (sFg (tSeq (tFor (iList K (tVar 0)) (gName 2) (tWhile (tTest (tOp rEq (tOp oMod (tVar 1) (tVar 2)) (tC (.int 0)))) (tAug 1 (tVar 2) (ipC CDivW fun i j => i / j))))
  (tRet (tOp rEq (tVar 1) (tC (.int 1))))))
theorem r_is_made {K : PySem.W.Frag} {vs : List V} {H : Hp} {Q : VK} {E : XK} (h : sp_is_made K vs H Q E) : t_is_made K { nx := fun _ H' => Q .non H', rt := Q } (start n_is_made vs) H := by
  obtain ⟨nd, a, row, n, rfl, ha, w, hn, q⟩ := h
  refine fg_body (q_forI (ev_v 0) ha (fun i σ' H' => ∃ (k : Nat) (y : Option V), σ' = [some (.ref a), some (.int k), y] ∧ H' = H ∧ 0 < k ∧ stripAll (row.drop i) k = stripAll row n) ⟨n, none, rfl, rfl, hn, rfl⟩ (fun i σ' H' _ hv => ?_) (fun i x σ' H' hx hv => ?_) (fun σ' H' hv => ?_))
  · obtain ⟨k, y, _, rfl, _⟩ := hv
    exact ha
  · obtain ⟨k, y, rfl, rfl, hk, he⟩ := hv
    rw [List.getElem?_map] at hx
    cases e : row[i]? with
    | none => rw [e] at hx; cases hx
    | some p =>
      rw [e] at hx
      cases hx
      have hlt := (List.getElem?_eq_some_iff.mp e).1
      have hp := w.ge (List.mem_of_getElem? e)
      have hdr : row.drop i = p :: row.drop (i + 1) := by
        rw [List.drop_eq_getElem_cons hlt]
        congr 1
        exact (List.getElem?_eq_some_iff.mp e).2
      rw [hdr] at he
      refine s_whileP (fun m σ' H'' => ∃ j : Nat, σ' = [some (.ref a), some (.int j), some (.int p)] ∧ H'' = H' ∧ j = m ∧ 0 < j ∧ strip p j = strip p k) k ⟨k, rfl, rfl, rfl, hk, rfl⟩ (fun m σ' H'' hw => ?_)
      obtain ⟨j, rfl, rfl, rfl, hj, hs⟩ := hw
      refine ⟨_, ep_eqi (ev_mod (ev_v 1) (ev_v 2) (by omega)) ev_c, fun hb => ?_, fun hb => ?_⟩
      · have hm : j % p = 0 := by omega
        have hdl : j / p < j := Nat.div_lt_self hj (by omega)
        refine s_augC (a := (j : Int)) (b := (p : Int)) (ev_v 2) ⟨j / p, hdl, j / p, by simp, rfl, rfl, ?_, ?_⟩ (cd (by omega))
        · exact Nat.div_pos (Nat.le_of_dvd hj (Nat.dvd_of_mod_eq_zero hm)) (by omega)
        · rw [← hs, strip_yes (by omega) hj hm]
      · have hm : j % p ≠ 0 := by omega
        rw [strip_no hm] at hs
        refine ⟨j, some (.int p), rfl, rfl, hj, ?_⟩
        rw [hs]
        exact he
  · obtain ⟨k, y, rfl, rfl, hk, he⟩ := hv
    rw [zl_len, List.drop_length] at he
    refine s_ret (ev_eqi (ev_v 1) ev_c) ⟨_, fg_same ex_refl, ?_⟩
    have : decide ((k : Int) = 1) = decide (stripAll row n = 1) := by
      rw [← he]
      exact decide_eq_decide.mpr ⟨fun z => by have : k = 1 := by omega
                                              exact this, fun z => by have : k = 1 := z
                                                                      omega⟩
    rw [this]
    exact q
open Classical in
def sp_is_made_of (K : PySem.W.Frag) : Sp := fun vs H Q _ => Nod H ∧ ∃ (a : Addr) (row : List Nat) (n : Nat), vs = [.ref a, .int (n : Int)] ∧ H a = some (.lst (zv row)) ∧ Rw row ∧ row ≠ [] ∧ Q (.bl (decide (0 < n ∧ Mk row n))) H
/-- slots: row thing -/
abbrev n_is_made_of : List Str := ["row", "thing"]
def t_is_made_of (K : PySem.W.Frag) : TS := (sFg (tSeq (tDrop (tCall (sp_need_row K) [] E0 (tCons (tVar 0) tNil)))
  (tRet (tAndV (tCall (sp_is_whole K) [] E0 (tCons (tVar 1) tNil)) (tAndV (tOp oGt (tVar 1) (tC (.int 0))) (tCall (sp_is_made K) [] E0 (tCons (tVar 0) (tCons (tVar 1) tNil))))))))
theorem r_is_made_of {K : PySem.W.Frag} {vs : List V} {H : Hp} {Q : VK} {E : XK} (h : sp_is_made_of K vs H Q E) : t_is_made_of K { nx := fun _ H' => Q .non H', rt := Q } (start n_is_made_of vs) H := by
  obtain ⟨nd, a, row, n, rfl, ha, w, hne, q⟩ := h
  refine fg_body (q_drop (ev_call (v := .non) (ea_1 (ev_v 0)) (fun Q q => ⟨nd, a, row, rfl, ha, w, hne, q⟩) _ ?_))
  refine s_ret (ev_eq (ev_and (ev_call (v := .bl true) (ea_1 (ev_v 1)) fun Q q => ⟨nd, _, rfl, q⟩) fun _ => ev_and (b := decide (stripAll row n = 1)) (ev_gt (ev_v 1) ev_c) fun hb => ev_call (ea_2 (ev_v 0) (ev_v 1)) fun Q q => ⟨nd, a, row, n, rfl, sq_at ha, w, ?_, q⟩) ?_) ⟨H, fg_same ex_refl, q⟩
  · have := of_decide_eq_true hb; omega
  · congr 1
    by_cases h0 : 0 < n
    · have e := stripAll_iff w.good h0
      by_cases hm : Mk row n
      · simp [h0, hm, e.mpr hm]
      · have : ¬ stripAll row n = 1 := fun z => hm (e.mp z)
        simp [hm, this]
    · have h00 : n = 0 := by omega
      subst h00
      simp
end Px
set_option Elab.async false
set_option linter.all false
set_option maxRecDepth 100000
set_option maxHeartbeats 4000000
namespace Px
open PySem L2 MA
local macro_rules | `(tactic| bv_omega) => `(tactic| first | assumption | omega | exact cm (by omega) | exact cd (by omega) | exact cp (by omega) | exact trivial)
local macro_rules | `(tactic| array_get_dec) => `(tactic| first
  | assumption
  | exact sq_up
  | exact Own.sqi (by assumption) 0 (by rfl)
  | exact Own.sqi (by assumption) 1 (by rfl)
  | exact Own.sqi (by assumption) 2 (by rfl)
  | exact Own.sqi (by assumption) 3 (by rfl)
  | exact Own.sqi (by assumption) 4 (by rfl)
  | exact Own.sq (by assumption) (by assumption)
  | exact sq_new (by assumption) (by assumption))
local macro_rules | `(tactic| clean_wf) => `(tactic| first
  | with_reducible exact ev_c
  | (with_reducible apply ev_v') <;> rfl
  | (with_reducible apply ev_add) <;> clean_wf
  | (with_reducible apply ev_sub) <;> clean_wf
  | (with_reducible apply ev_mul) <;> clean_wf
  | (with_reducible apply ev_mod) <;> clean_wf
  | (with_reducible apply ev_div) <;> clean_wf
  | (with_reducible apply ev_pow) <;> clean_wf
  | (with_reducible apply ev_neg) <;> clean_wf
  | (with_reducible apply ev_lt) <;> clean_wf
  | (with_reducible apply ev_le) <;> clean_wf
  | (with_reducible apply ev_gt) <;> clean_wf
  | (with_reducible apply ev_ge) <;> clean_wf
  | (with_reducible apply ev_eqi) <;> clean_wf
  | (with_reducible apply ev_nei) <;> clean_wf
  | (with_reducible apply ev_len) <;> clean_wf
  | (with_reducible apply ev_ixL) <;> clean_wf
  | (with_reducible apply ev_min) <;> clean_wf
  | (with_reducible apply ev_max) <;> clean_wf
  | (with_reducible apply ev_abs) <;> clean_wf
  | (with_reducible apply ev_intB) <;> clean_wf
  | (with_reducible apply ea_1) <;> clean_wf
  | (with_reducible apply ea_2) <;> clean_wf
  | (with_reducible apply ea_3) <;> clean_wf
  | with_reducible exact ea_nil
  | (with_reducible apply ea_cons) <;> clean_wf
  | with_reducible exact el_nil
  | (with_reducible apply ep_lt) <;> clean_wf
  | (with_reducible apply ep_le) <;> clean_wf
  | (with_reducible apply ep_gt) <;> clean_wf
  | (with_reducible apply ep_ge) <;> clean_wf
  | (with_reducible apply ep_eqi) <;> clean_wf
  | (with_reducible apply ep_nei) <;> clean_wf
  | (with_reducible apply ep_not) <;> clean_wf
  | ((with_reducible apply ep_and) <;> first | (intro _; clean_wf; done) | clean_wf)
  | ((with_reducible apply ep_or) <;> first | (intro _; clean_wf; done) | clean_wf)
  | (with_reducible apply et_t) <;> clean_wf
  | (with_reducible apply eo_is) <;> clean_wf
  | with_reducible exact eo_no
  | array_get_dec
  | bv_omega
  | rfl
  | skip)
local macro_rules | `(tactic| symm_saturate) => `(tactic| first
  | ((with_reducible apply q_set); (focus (clean_wf; done)))
  | ((with_reducible apply s_set); (focus (clean_wf; done)))
  | ((with_reducible apply q_aug (hx := rfl)); (focus (clean_wf; done)))
  | ((with_reducible apply s_aug (hx := rfl)); (focus (clean_wf; done)))
  | ((with_reducible apply q_augC (hx := rfl)); (focus (clean_wf; done)))
  | ((with_reducible apply s_augC (hx := rfl)); (focus (clean_wf; done))))
local macro_rules | `(tactic| subst_eqs) => `(tactic| repeat' (first
  | with_reducible apply w_c
  | ((with_reducible apply w_v'); (focus rfl))
  | with_reducible apply w_op
  | with_reducible apply w_cb
  | with_reducible apply w_cons
  | with_reducible apply w_nil
  | with_reducible apply r_add
  | with_reducible apply r_sub
  | ((with_reducible apply r_mul); (focus (bv_omega; done)))
  | ((with_reducible apply r_div); (focus (bv_omega; done)))
  | ((with_reducible apply r_mod); (focus (bv_omega; done)))
  | ((with_reducible apply r_pow); (focus (bv_omega; done)))
  | with_reducible apply r_lt
  | with_reducible apply r_le
  | with_reducible apply r_gt
  | with_reducible apply r_ge
  | with_reducible apply r_min
  | with_reducible apply r_max
  | with_reducible apply r_intB
  | ((with_reducible apply r_len); (focus (array_get_dec; done)))
  | with_reducible apply w_callW
  | with_reducible apply q_setW
  | with_reducible apply s_setW
  | with_reducible apply s_retW))

/-! ### all to a bound, in any order -/
def sp_made_to (K : PySem.W.Frag) : Sp := fun vs H Q _ => Nod H ∧ ∃ (a : Addr) (row : List Nat) (b : Nat), vs = [.ref a, .int (b : Int)] ∧ H a = some (.lst (zv row)) ∧ Rw row ∧ Fits row b ∧
  ∀ (p : Addr) (l : List Nat), H p = none → IsAll row b l → Q (.ref p) (upd H p (.lst (zv l)))
/-- slots: row bound found prime at -/
abbrev n_made_to : List Str := ["row", "bound", "found", "prime", "at"]
def t_made_to (K : PySem.W.Frag) : TS := (sFg (tSeq (tAsg (tFg (tOp rRep (tLst (tCons (tC (.int 1)) tNil)) (tCB cInt (tCons (tOp oGt (tVar 1) (tC (.int 0))) tNil)))) (gName 2))
  (tSeq (tFor (iList K (tVar 0)) (gName 3) (tSeq (tAsg (tC (.int 0)) (gName 4))
  (tWhile (tTest (tOp oLt (tVar 4) (tCB (cLen K) (tCons (tVar 2) tNil)))) (tSeq (tIfS (tTest (tOp oLe (tOp oMul (tOp (rIxL K) (tVar 2) (tVar 4)) (tVar 3)) (tVar 1))) (tDrop (tBM K "list" rAppend (tVar 2) (tCons (tOp oMul (tOp (rIxL K) (tVar 2) (tVar 4)) (tVar 3)) tNil))) tNext)
  (tAug 4 (tC (.int 1)) (ipI fun i j => i + j))))))
  (tRet (tVar 2)))))
theorem zv_one (b : Nat) (F : List Nat) : (zv F) ++ [V.int (b : Int)] = zv (F ++ [b]) := by simp
theorem s_appN {K : PySem.W.Frag} {σ : L2.St} {H : Hp} {ta te : TE} {l : Addr} {F : List Nat} {x : Nat} {D : Ends} (hz : F.length < 16000000) (ha : Ev ta σ (upd H l (.lst (zv F))) (.ref l)) (h : Ev te σ (upd H l (.lst (zv F))) (.int (x : Int))) (k : D.nx σ (upd H l (.lst (zv (F ++ [x]))))) : tDrop (tBM K "list" rAppend ta (tCons te tNil)) D σ (upd H l (.lst (zv F))) :=
  s_app upd_same (by rw [zv_len]; exact szl hz) ha h (by rw [upd_upd, zv_one]; exact k)
theorem r_made_to {K : PySem.W.Frag} {vs : List V} {H : Hp} {Q : VK} {E : XK} (h : sp_made_to K vs H Q E) : t_made_to K { nx := fun _ H' => Q .non H', rt := Q } (start n_made_to vs) H := by
  obtain ⟨nd, a, row, b, rfl, ha, w, f, q⟩ := h
  have g := w.good
  have hfit := w.fit f
  have hb := f.lt
  refine fg_body (q_setL (xs := zv (if 0 < b then [1] else [])) (el_fg fun Q q => w_op (w_evL (el_lst (ea_1 ev_c) (by simp)) fun p1 hp1 => ?_)) fun p hp => ?_)
  · refine w_cb (w_one (w_op (w_v 1 (w_c (r_gt (r_intB (w_rep1 (k := 1) upd_same fun p2 hp2 => ?_)))))))
    obtain ⟨h1, h2⟩ := none_upd hp2
    refine q p2 _ h1 (ex_upd h1 (ex_new hp1)) ?_
    rw [upd_same]
    by_cases h0 : 0 < b
    · simp [h0]
    · have : b = 0 := by omega
      subst this; simp
  have hap : a ≠ p := ne_of_none ha hp
  have sa : ∀ o, SqL K (upd H p o) a (zv row) := fun o => sq_at (by rw [upd_ne hap]; exact ha)
  refine q_forI (ns := zl row) (ev_v 0) (sa _) (fun i σ' H' => ∃ (F : List Nat) (y3 y4 : Option V), σ' = [some (.ref a), some (.int b), some (.ref p), y3, y4] ∧ H' = upd H p (.lst (zv F)) ∧ IsAll (row.take i) b F) ⟨_, none, none, rfl, rfl, ?_⟩ (fun i σ' H' _ hv => ?_) (fun i x σ' H' hx hv => ?_) (fun σ' H' hv => ?_)
  · rw [List.take_zero]
    by_cases h0 : 0 < b
    · rw [if_pos h0]; exact all_nil h0
    · rw [if_neg h0, show b = 0 by omega]; exact all_zero fun _ h => (List.not_mem_nil h).elim
  · obtain ⟨F, y3, y4, _, rfl, _⟩ := hv
    exact sa _
  · obtain ⟨L, y3, y4, rfl, rfl, hL⟩ := hv
    rw [List.getElem?_map] at hx
    cases e : row[i]? with
    | none => rw [e] at hx; cases hx
    | some pr =>
      rw [e] at hx
      cases hx
      have gd := take_good g e
      have hp2 := w.ge (List.mem_of_getElem? e)
      have hcap : cnt (pr :: row.take i) b ≤ 9000000 := Nat.le_trans (take_cnt e) hfit
      refine q_set ev_c (s_whileP (fun m σ' H' => ∃ (F : List Nat) (k : Nat), σ' = [some (.ref a), some (.int b), some (.ref p), some (.int (pr : Int)), some (.int (k : Int))] ∧ H' = upd H p (.lst (zv F)) ∧ m = 9000000 - k ∧ k ≤ F.length ∧ Gr (row.take i) L pr b F k) 9000000 ⟨L, 0, rfl, rfl, rfl, by omega, .start hL⟩ (fun m σ' H' hw => ?_))
      obtain ⟨F, k, rfl, rfl, rfl, hk, G⟩ := hw
      have hF := G.len
      refine ⟨_, ep_lt (ev_v 4) (ev_len (ev_v 2) sq_up), fun hc => ?_, fun hc => ?_⟩
      · rw [zv_len] at hc
        have hk2 : k < F.length := by omega
        have hgk := List.getElem?_eq_getElem hk2
        have hx := G.made _ (List.getElem_mem hk2)
        have at_ := zv_at hk2
        generalize F[k] = x at hgk hx at_
        have hxp : (x : Int) * (pr : Int) = ((x * pr : Nat) : Int) := by simp
        refine q_whenI (fun σ' H' => ∃ F' : List Nat, σ' = [some (.ref a), some (.int b), some (.ref p), some (.int (pr : Int)), some (.int (k : Int))] ∧ H' = upd H p (.lst (zv F')) ∧ k < F'.length ∧ Gr (row.take i) L pr b F' (k + 1)) (ep_le (ev_mul (ev_ixL (ev_v 2) (ev_v 4) sq_up at_) (ev_v 3) (cm (by omega))) (ev_v 1)) (fun hle N hN => ?_) (fun hle => ⟨F, rfl, rfl, hk2, G.stay hgk (by omega)⟩) fun σ' H' hI => ?_
        · refine s_appN (x := x * pr) (by omega) (ev_v 2) (ev_eq (ev_mul (ev_ixL (ev_v 2) (ev_v 4) sq_up at_) (ev_v 3) (cm (by omega))) (by rw [hxp])) (hN _ _ ⟨_, rfl, rfl, by simp; omega, G.grow gd hL hgk (by omega)⟩)
        · obtain ⟨F', rfl, rfl, hk', G'⟩ := hI
          have := G'.len
          exact s_aug (a := (k : Int)) ev_c ⟨9000000 - (k + 1), by omega, F', k + 1, rfl, rfl, rfl, by omega, G'⟩
      · rw [zv_len] at hc
        have hkl : k = F.length := by omega
        subst hkl
        exact ⟨F, _, _, rfl, rfl, take_all e (G.fin gd hL)⟩
  · obtain ⟨F, y3, y4, rfl, rfl, hF⟩ := hv
    rw [zl_len, List.take_length] at hF
    exact s_ret (ev_v 2) ⟨_, fg_newL hp (ex_new hp) upd_same, q p F hp hF⟩
/-! ### in order -/
def sp_all_to (K : PySem.W.Frag) : Sp := fun vs H Q _ => Nod H ∧ ∃ (a : Addr) (row : List Nat) (b : Nat), vs = [.ref a, .int (b : Int)] ∧ H a = some (.lst (zv row)) ∧ Rw row ∧ row ≠ [] ∧ Fits row b ∧
  ∀ (p : Addr), H p = none → Q (.ref p) (upd H p (.lst (zv (allL row b))))
/-- slots: row bound -/
abbrev n_all_to : List Str := ["row", "bound"]
def t_all_to (K : PySem.W.Frag) : TS := (sFg (tSeq (tDrop (tCall (sp_need_row K) [] E0 (tCons (tVar 0) tNil)))
  (tRet (tFg (tCB (rSortedI K) (tCons (tCall (sp_made_to K) [] E0 (tCons (tVar 0) (tCons (tVar 1) tNil))) tNil))))))
theorem need {K : PySem.W.Frag} {σ : L2.St} {H : Hp} {D : Ends} {s2 : TS} {a : Addr} {row : List Nat} [nd : Nod H] (h0 : σ[0]? = some (some (.ref a))) (ha : H a = some (.lst (zv row))) (w : Rw row) (hne : row ≠ []) (k : s2 D σ H) : tSeq (tDrop (tCall (sp_need_row K) [] E0 (tCons (tVar 0) tNil))) s2 D σ H :=
  q_drop (ev_call (v := .non) (ea_1 (ev_v' h0)) (fun Q q => ⟨nd, a, row, rfl, ha, w, hne, q⟩) _ k)
theorem r_all_to {K : PySem.W.Frag} {vs : List V} {H : Hp} {Q : VK} {E : XK} (h : sp_all_to K vs H Q E) : t_all_to K { nx := fun _ H' => Q .non H', rt := Q } (start n_all_to vs) H := by
  obtain ⟨nd, a, row, b, rfl, ha, w, hne, f, q⟩ := h
  refine fg_body (need rfl ha w hne (s_retL (el_fg fun Q q => w_cb (w_one (w_call (ea_2 (ev_v 0) (ev_v 1)) ⟨nd, a, row, b, rfl, ha, w, f, fun p l hp hl => r_sortN sq_up fun l' p2 h1 h2 hp2 => ?_⟩))) fun p hp => ⟨_, fg_newL hp (ex_new hp) upd_same, q p hp⟩))
  obtain ⟨h3, h4⟩ := none_upd hp2
  rw [hl.sorted h1 h2]
  exact q p2 _ h3 (ex_upd h3 (ex_new hp)) upd_same
/-! ### grown -/
def sp_grown (K : PySem.W.Frag) : Sp := fun vs H Q _ => Nod H ∧ ∃ (x p b : Nat), vs = [.int (x : Int), .int (p : Int), .int (b : Int)] ∧ 0 < x ∧ x < 2 ^ 100 ∧ 2 ≤ p ∧ p ≤ 97 ∧ b < 2 ^ 100 ∧ ∀ y, Gn p b x y → Q (.int (y : Int)) H
/-- slots: number prime bound -/
abbrev n_grown : List Str := ["number", "prime", "bound"]
def t_grown (K : PySem.W.Frag) : TS := (sFg (tSeq (tWhile (tTest (tOp oLe (tOp oMul (tVar 0) (tVar 1)) (tVar 2))) (tAug 0 (tVar 1) (ipC CMulW fun i j => i * j)))
  (tRet (tVar 0))))
theorem r_grown {K : PySem.W.Frag} {vs : List V} {H : Hp} {Q : VK} {E : XK} (h : sp_grown K vs H Q E) : t_grown K { nx := fun _ H' => Q .non H', rt := Q } (start n_grown vs) H := by
  obtain ⟨nd, x, p, b, rfl, hx, hx2, hp, hp2, hb, q⟩ := h
  refine fg_body (q_whileP (fun m σ' H' => ∃ (y : Nat), σ' = [some (.int (y : Int)), some (.int (p : Int)), some (.int (b : Int))] ∧ H' = H ∧ m = 2 ^ 100 - y ∧ 0 < y ∧ y < 2 ^ 100 ∧ (∃ k, y = x * p ^ k) ∧ (x ≤ b → y ≤ b)) (2 ^ 100 - x) ⟨x, rfl, rfl, rfl, hx, hx2, ⟨0, by simp⟩, fun h => h⟩ (fun m σ' H' hw => ?_))
  obtain ⟨y, rfl, rfl, rfl, hy, hy2, ⟨k, hk⟩, hle⟩ := hw
  have hyp : (y : Int) * (p : Int) = ((y * p : Nat) : Int) := by simp
  have h2 : y * 2 ≤ y * p := Nat.mul_le_mul_left y hp
  refine ⟨_, ep_le (ev_mul (ev_v 0) (ev_v 1) (cm (by omega))) (ev_v 2), fun hc => ?_, fun hc => ?_⟩
  · rw [hyp] at hc
    exact s_augC (a := (y : Int)) (b := (p : Int)) (ev_v 1) ⟨2 ^ 100 - y * p, by omega, y * p, by rw [hyp]; rfl, rfl, rfl, by omega, by omega, ⟨k + 1, by rw [hk, Nat.pow_succ, Nat.mul_assoc]⟩, fun _ => by omega⟩ (cm (by omega))
  · rw [hyp] at hc
    exact s_ret (ev_v 0) ⟨_, fg_same ex_refl, q y ⟨⟨k, hk⟩, by omega, hle⟩⟩
/-! ### counted -/
def sp_how_often (K : PySem.W.Frag) : Sp := fun vs H Q _ => Nod H ∧ ∃ (p b : Nat), vs = [.int (p : Int), .int (b : Int)] ∧ 2 ≤ p ∧ p ≤ 97 ∧ b < 2 ^ 100 ∧ Q (.int ((pwl p b 1).length : Int)) H
/-- slots: prime bound found power -/
abbrev n_how_often : List Str := ["prime", "bound", "found", "power"]
def t_how_often (K : PySem.W.Frag) : TS := (sFg (tSeq (tAsg (tC (.int 0)) (gName 2))
  (tSeq (tAsg (tC (.int 1)) (gName 3))
  (tSeq (tWhile (tTest (tOp oLe (tVar 3) (tVar 1))) (tSeq (tAug 2 (tC (.int 1)) (ipI fun i j => i + j))
  (tAug 3 (tVar 0) (ipC CMulW fun i j => i * j))))
  (tRet (tVar 2))))))
theorem r_how_often {K : PySem.W.Frag} {vs : List V} {H : Hp} {Q : VK} {E : XK} (h : sp_how_often K vs H Q E) : t_how_often K { nx := fun _ H' => Q .non H', rt := Q } (start n_how_often vs) H := by
  obtain ⟨nd, p, b, rfl, hp, hp2, hb, q⟩ := h
  refine fg_body (q_set ev_c (q_set ev_c (q_whileP (fun m σ' H' => ∃ (k y : Nat), σ' = [some (.int (p : Int)), some (.int (b : Int)), some (.int (k : Int)), some (.int (y : Int))] ∧ H' = H ∧ m = 2 ^ 110 - y ∧ 0 < y ∧ y < 2 ^ 110 ∧ k + (pwl p b y).length = (pwl p b 1).length) (2 ^ 110 - 1) ⟨0, 1, rfl, rfl, rfl, by omega, by omega, by omega⟩ (fun m σ' H' hw => ?_))))
  obtain ⟨k, y, rfl, rfl, rfl, hy, hy2, he⟩ := hw
  have hyp : (y : Int) * (p : Int) = ((y * p : Nat) : Int) := by simp
  have h2 : y * 2 ≤ y * p := Nat.mul_le_mul_left y hp
  refine ⟨_, ep_le (ev_v 3) (ev_v 1), fun hc => ?_, fun hc => ?_⟩
  · have hyb : y ≤ b := by omega
    have h3 : y * p ≤ 2 ^ 100 * 97 := Nat.mul_le_mul (by omega) hp2
    rw [pwl_yes hp hy hyb, List.length_cons] at he
    refine q_aug (a := (k : Int)) ev_c (s_augC (a := (y : Int)) (b := (p : Int)) (ev_v 0) ⟨2 ^ 110 - y * p, by omega, k + 1, y * p, ?_, rfl, rfl, by omega, by omega, by omega⟩ (cm (by omega)))
    rw [hyp]; rfl
  · rw [pwl_no (by omega), List.length_nil] at he
    have e : k = (pwl p b 1).length := by omega
    rw [← e] at q
    exact s_ret (ev_v 2) ⟨_, fg_same ex_refl, q⟩
def sp_many_to (K : PySem.W.Frag) : Sp := fun vs H Q _ => Nod H ∧ ∃ (a : Addr) (row : List Nat) (b : Nat), vs = [.ref a, .int (b : Int)] ∧ H a = some (.lst (zv row)) ∧ Rw row ∧ row ≠ [] ∧ Fits row b ∧ Q (.int (cnt row b : Int)) H
/-- slots: row bound rest -/
abbrev n_many_to : List Str := ["row", "bound", "rest"]
def t_many_to (K : PySem.W.Frag) : TS := (sFg (tSeq (tDrop (tCall (sp_need_row K) [] E0 (tCons (tVar 0) tNil)))
  (tRet (tFg (tCB (rSum K) (tCons (tFg (tLc (iList K (tFg (tCall (sp_made_to K) [] E0 (tCons (tSl (rSlL K) (tVar 0) (tPart (tC (.int 1))) tNoPart) (tCons (tVar 1) tNil))))) (gName 2) tYes (tCall (sp_how_often K) [] E0 (tCons (tOp (rIxL K) (tVar 0) (tC (.int 0))) (tCons (tOp oDiv (tVar 1) (tVar 2)) tNil))) [2])) tNil))))))
/-- made_to(row[1:], b) -/
theorem el_rest {K : PySem.W.Frag} {σ : L2.St} {H : Hp} [nd : Nod H] {te : TE} {a : Addr} {p b : Nat} {r : List Nat} (h0 : σ[0]? = some (some (.ref a))) (ha : H a = some (.lst (zv (p :: r)))) (w : Rw (p :: r)) (f : Fits r b) (hb : ∀ H1, Ev te σ H1 (.int (b : Int))) {Q : VK} (q : ∀ l q, IsAll r b l → H q = none → Q (.ref q) (upd H q (.lst (zv l)))) :
    tFg (tCall (sp_made_to K) [] E0 (tCons (tSl (rSlL K) (tVar 0) (tPart (tC (.int 1))) tNoPart) (tCons te tNil))) σ H Q := by
  refine w_callW (w_cons (w_evL (el_sl (ev_v' h0) (eo_is ev_c) eo_no (sq_at ha)) fun p1 hp1 => w_one (w_ev (hb _) ?_)))
  rw [show (1 : Int) = ((1 : Nat) : Int) from rfl, cut_fromN]
  refine ⟨inferInstance, p1, r, b, rfl, upd_same, w.tail, f, fun p2 l hp2 hl => ?_⟩
  obtain ⟨h1, h2⟩ := none_upd hp2
  exact ⟨_, fg_newL h1 (ex_upd h1 (ex_new hp1)) upd_same, q l p2 hl h1⟩
theorem sum_zl {f : Nat → Nat} (l : List Nat) : (((zl l).map fun i : Int => (f i.toNat : Int)).sum) = ((l.map f).sum : Nat) := by
  induction l with
  | nil => rfl
  | cons a l ih =>
    simp only [zl, List.map_cons, List.sum_cons] at ih ⊢
    rw [ih]
    simp
theorem r_many_to {K : PySem.W.Frag} {vs : List V} {H : Hp} {Q : VK} {E : XK} (h : sp_many_to K vs H Q E) : t_many_to K { nx := fun _ H' => Q .non H', rt := Q } (start n_many_to vs) H := by
  obtain ⟨nd, a, row, b, rfl, ha, w, hne, f, q⟩ := h
  obtain ⟨p, r, rfl⟩ := List.exists_cons_of_ne_nil hne
  have f' : Fits r b := f.sub (by simp)
  have hp := w.ge List.mem_cons_self
  have hb := f.lt
  refine fg_body (need rfl ha w hne (s_ret (v := .int (cnt (p :: r) b : Int)) (ev_fg fun Q q => w_cb (w_one ?_)) ⟨H, fg_same ex_refl, q⟩))
  refine w_fg (w_lcLW (el_rest rfl ha w f' (fun H1 => ev_v 1) fun l p1 hl hp1 => ⟨p1, rfl, ⟨_, sq_up⟩, lcat_map (fun i => ((pwl p (b / i.toNat) 1).length : Int)) sq_up ?_ (fun _ => rfl) (fun i hi D acc hD => ?_) fun D hD => ?_⟩))
  · rw [zl_len, hl.len]
    exact Nat.le_trans (w.tail.fit f') (by omega)
  · obtain ⟨x, hx, rfl⟩ := List.mem_map.mp hi
    have hx0 := mk_pos w.tail.good.ge ((hl.2 x).mp hx).1
    obtain ⟨hD1, hD2⟩ := none_upd hD
    have hxb := ((hl.2 x).mp hx).2
    have hdb : b / x ≤ b := Nat.div_le_self _ _
    have hap : a ≠ p1 := ne_of_none ha hp1
    have haD : a ≠ D := ne_of_none ha hD1
    refine ev_call (ea_2 (ev_ixL (i := 0) (v := .int (p : Int)) (ev_v 0) ev_c (sq_at (by rw [upd_ne haD, upd_ne hap]; exact ha)) zv_0) (ev_eq (ev_div (ev_v 1) (ev_v 2) (cd (by omega))) (show V.int ((b : Int) / (x : Int)) = .int ((b / x : Nat) : Int) by simp))) fun Q q => ⟨inferInstance, p, b / x, rfl, hp.1, hp.2, by omega, ?_⟩
    simpa using q
  · obtain ⟨hD1, hD2⟩ := none_upd hD
    refine ⟨_, fg_newL hD1 (ex_upd hD1 (ex_new hp1)) upd_same, ?_⟩
    refine ⟨D, _, rfl, sq_up, ?_⟩
    have e : (((zl l).map fun i : Int => ((pwl p (b / i.toNat) 1).length : Int)).sum) = (cnt (p :: r) b : Int) := by
      rw [sum_zl (f := fun x => (pwl p (b / x) 1).length), cnt_sum w.good hl]
      congr 2
      refine List.map_congr_left fun x hx => (pwl_div1 (mk_pos w.tail.good.ge ((hl.2 x).mp hx).1) hp.1).symm
    rw [e]
    exact q _ (ex_new hD1)
def sp_many_between (K : PySem.W.Frag) : Sp := fun vs H Q _ => Nod H ∧ ∃ (a : Addr) (row : List Nat) (lo hi : Nat), vs = [.ref a, .int (lo : Int), .int (hi : Int)] ∧ H a = some (.lst (zv row)) ∧ Rw row ∧ row ≠ [] ∧ Fits row hi ∧
  Q (.int (if hi < lo then 0 else (cnt row hi : Int) - (cnt row (lo - 1) : Int))) H
/-- slots: row low high -/
abbrev n_many_between : List Str := ["row", "low", "high"]
def t_many_between (K : PySem.W.Frag) : TS := (sFg (tSeq (tDrop (tCall (sp_need_row K) [] E0 (tCons (tVar 0) tNil)))
  (tSeq (tIfS (tTest (tOp oGt (tVar 1) (tVar 2))) (tRet (tC (.int 0))) tNext)
  (tRet (tOp oSub (tCall (sp_many_to K) [] E0 (tCons (tVar 0) (tCons (tVar 2) tNil))) (tCall (sp_many_to K) [] E0 (tCons (tVar 0) (tCons (tCB cMax (tCons (tC (.int 0)) (tCons (tOp oSub (tVar 1) (tC (.int 1))) tNil))) tNil))))))))
theorem r_many_between {K : PySem.W.Frag} {vs : List V} {H : Hp} {Q : VK} {E : XK} (h : sp_many_between K vs H Q E) : t_many_between K { nx := fun _ H' => Q .non H', rt := Q } (start n_many_between vs) H := by
  obtain ⟨nd, a, row, lo, hi, rfl, ha, w, hne, f, q⟩ := h
  refine fg_body (need rfl ha w hne (q_whenP (by clean_wf) (fun hc => ?_) fun hc => ?_))
  · rw [if_pos (by omega)] at q
    exact s_ret ev_c ⟨H, fg_same ex_refl, q⟩
  · rw [if_neg (by omega)] at q
    refine s_ret (ev_sub (ev_call (ea_2 (ev_v 0) (ev_v 2)) fun Q q => ⟨nd, a, row, hi, rfl, ha, w, hne, f, q⟩) (ev_call (ea_2 (ev_v 0) (ev_eq (y := .int ((lo - 1 : Nat) : Int)) (ev_max ev_c (ev_sub (ev_v 1) ev_c)) (by congr 1; split <;> omega))) fun Q q => ⟨nd, a, row, lo - 1, rfl, ha, w, hne, f.mono (by omega), q⟩)) ⟨H, fg_same ex_refl, q⟩
/-! ### next and last -/
def sp_next_one (K : PySem.W.Frag) : Sp := fun vs H Q _ => Nod H ∧ ∃ (a : Addr) (row : List Nat) (n : Nat), vs = [.ref a, .int (n : Int)] ∧ H a = some (.lst (zv row)) ∧ Rw row ∧ row ≠ [] ∧ Fits (row.drop 1) (n * 97) ∧ n < 2 ^ 63 ∧
  ∀ m, IsNext row n m → Q (.int (m : Int)) H
/-- slots: row number best rest -/
abbrev n_next_one : List Str := ["row", "number", "best", "rest"]
def t_next_one (K : PySem.W.Frag) : TS := (sFg (tSeq (tDrop (tCall (sp_need_row K) [] E0 (tCons (tVar 0) tNil)))
  (tSeq (tIfS (tTest (tOp rEq (tVar 1) (tC (.int 0)))) (tRet (tC (.int 1))) tNext)
  (tSeq (tAsg (tOp oMul (tCall (sp_grown K) [] E0 (tCons (tC (.int 1)) (tCons (tOp (rIxL K) (tVar 0) (tC (.int 0))) (tCons (tVar 1) tNil)))) (tOp (rIxL K) (tVar 0) (tC (.int 0)))) (gName 2))
  (tSeq (tFor (iList K (tFg (tCall (sp_made_to K) [] E0 (tCons (tSl (rSlL K) (tVar 0) (tPart (tC (.int 1))) tNoPart) (tCons (tVar 2) tNil))))) (gName 3) (tSeq (tIfS (tTest (tOp oLe (tVar 3) (tVar 1))) (tAsg (tOp oMul (tCall (sp_grown K) [] E0 (tCons (tVar 3) (tCons (tOp (rIxL K) (tVar 0) (tC (.int 0))) (tCons (tVar 1) tNil)))) (tOp (rIxL K) (tVar 0) (tC (.int 0)))) (gName 3)) tNext)
  (tAsg (tCB cMin (tCons (tVar 2) (tCons (tVar 3) tNil))) (gName 2))))
  (tRet (tVar 2)))))))
theorem next_zero {row : List Nat} (g : ∀ p ∈ row, 2 ≤ p) : IsNext row 0 1 := ⟨.one, by omega, fun k hk _ => mk_pos g hk⟩
theorem r_next_one {K : PySem.W.Frag} {vs : List V} {H : Hp} {Q : VK} {E : XK} (h : sp_next_one K vs H Q E) : t_next_one K { nx := fun _ H' => Q .non H', rt := Q } (start n_next_one vs) H := by
  obtain ⟨nd, a, row, n, rfl, ha, w, hne, f, hn, q⟩ := h
  obtain ⟨p, r, rfl⟩ := List.exists_cons_of_ne_nil hne
  have hp := w.ge List.mem_cons_self
  have g := w.good
  refine fg_body (need rfl ha w hne (q_whenP (by clean_wf) (fun hc => ?_) fun hc => ?_))
  · have : n = 0 := by omega
    subst this
    exact s_ret ev_c ⟨H, fg_same ex_refl, q 1 (next_zero g.ge)⟩
  have hn0 : 0 < n := by omega
  have ev0 : ∀ {σ : L2.St} {H' : Hp}, σ[0]? = some (some (.ref a)) → Ex H H' → Ev (tOp (rIxL K) (tVar 0) (tC (.int 0))) σ H' (.int (p : Int)) := fun h e => ev_ixL (ev_v' h) ev_c (sq_at (e _ _ ha)) zv_0
  refine q_setW (w_op (w_callW (w_cons (w_c (w_cons (w_ev (ev0 rfl ex_refl) (w_one (w_v 1 ⟨nd, 1, p, n, rfl, by omega, by omega, hp.1, hp.2, by omega, fun y gy => ?_⟩))))))))
  have hy := gy.le hn0
  have hyp : (y : Int) * (p : Int) = ((y * p : Nat) : Int) := by simp
  have hyn : y * p ≤ n * 97 := Nat.mul_le_mul hy hp.2
  refine w_ev (ev0 rfl ex_refl) (r_mul (cm (by omega)) ?_)
  rw [hyp]
  have hmk0 : Mk (p :: r) (y * p) := by
    obtain ⟨k, e⟩ := gy.pw
    rw [e, Nat.one_mul, ← Nat.pow_succ]
    exact mk_pow List.mem_cons_self _
  have hgt0 := gy.gt
  generalize y * p = b0 at hyn hmk0 hgt0
  refine q_seq (w_forL (el_rest rfl ha w (f.mono hyn) (fun H1 => ev_v 2) fun l p1 hl hp1 => ⟨p1, rfl, ⟨_, sq_up⟩, ?_⟩))
  have hap : a ≠ p1 := ne_of_none ha hp1
  refine lp_list (xs := zv l) (fun i σ' H' => ∃ (best : Nat) (y3 : Option V), σ' = [some (.ref a), some (.int (n : Int)), some (.int (best : Int)), y3] ∧ H' = upd H p1 (.lst (zv l)) ∧ Mk (p :: r) best ∧ n < best ∧ best ≤ b0 ∧ ∀ x ∈ l.take i, ∀ k, n < x * p ^ k → best ≤ x * p ^ k) ⟨b0, none, rfl, rfl, hmk0, hgt0, by omega, by simp⟩ (fun i σ' H' _ hv => ?_) (fun i x σ' H' hx hv => ?_) (fun σ' H' hv => ?_)
  · obtain ⟨_, _, _, rfl, _⟩ := hv
    exact sq_up
  · obtain ⟨best, y3, rfl, rfl, hm, hg, hle, hall⟩ := hv
    simp only [List.getElem?_map] at hx
    cases e : l[i]? with
    | none => rw [e] at hx; cases hx
    | some x' =>
      rw [e] at hx
      cases hx
      have hxm := (hl.2 x').mp (List.mem_of_getElem? e)
      have hx0 := mk_pos w.tail.good.ge hxm.1
      have etake : l.take (i + 1) = l.take i ++ [x'] := by rw [List.take_add_one, e]; rfl
      have fin : ∀ z : Nat, Mk (p :: r) z → n < z → (∀ k, n < x' * p ^ k → z ≤ x' * p ^ k) → ∀ N : L2.St → Hp → Prop, (∀ σ' H', (∃ (best : Nat) (y3 : Option V), σ' = [some (.ref a), some (.int (n : Int)), some (.int (best : Int)), y3] ∧ H' = upd H p1 (.lst (zv l)) ∧ Mk (p :: r) best ∧ n < best ∧ best ≤ b0 ∧ ∀ x ∈ l.take (i + 1), ∀ k, n < x * p ^ k → best ≤ x * p ^ k) → N σ' H') →
          N [some (.ref a), some (.int (n : Int)), some (.int (if (z : Int) < (best : Int) then (z : Int) else (best : Int))), some (.int (z : Int))] (upd H p1 (.lst (zv l))) := fun z h1 h2 h3 N hN => by
        by_cases hzb : z < best
        · rw [if_pos (by omega)]
          refine hN _ _ ⟨z, _, rfl, rfl, h1, h2, by omega, fun x hx k hk => ?_⟩
          rw [etake, List.mem_append] at hx
          rcases hx with hx | hx
          · have := hall x hx k hk; omega
          · rw [List.mem_singleton.mp hx] at hk ⊢; exact h3 k hk
        · rw [if_neg (by omega)]
          refine hN _ _ ⟨best, _, rfl, rfl, hm, hg, hle, fun x hx k hk => ?_⟩
          rw [etake, List.mem_append] at hx
          rcases hx with hx | hx
          · exact hall x hx k hk
          · rw [List.mem_singleton.mp hx] at hk ⊢; have := h3 k hk; omega
      refine q_whenI (fun σ' H' => ∃ z : Nat, σ' = [some (.ref a), some (.int (n : Int)), some (.int (best : Int)), some (.int (z : Int))] ∧ H' = upd H p1 (.lst (zv l)) ∧ Mk (p :: r) z ∧ n < z ∧ ∀ k, n < x' * p ^ k → z ≤ x' * p ^ k) (ep_le (i := (x' : Int)) (j := (n : Int)) (ev_v 3) (ev_v 1)) (fun hxn N hN => ?_) (fun hxn => ⟨x', rfl, rfl, mk_mono (fun _ h => List.mem_cons_of_mem _ h) hxm.1, by omega, fun k _ => pow_le_self hp.1⟩) fun σ' H' hI => ?_
      · refine s_setW (w_op (w_callW (w_cons (w_v 3 (w_cons (w_ev (ev0 rfl (ex_new hp1)) (w_one (w_v 1 ⟨inferInstance, x', p, n, rfl, hx0, by omega, hp.1, hp.2, by omega, fun z gz => ?_⟩))))))))
        have hz := gz.le (by omega)
        have hzp : (z : Int) * (p : Int) = ((z * p : Nat) : Int) := by simp
        refine w_ev (ev0 rfl (ex_new hp1)) (r_mul (cm (by omega)) ?_)
        rw [hzp]
        refine hN _ _ ⟨z * p, rfl, rfl, ?_, gz.gt, fun k hk => gz.least hp.1 (by omega) hx0 hk⟩
        obtain ⟨k, e⟩ := gz.pw
        rw [e, Nat.mul_assoc, ← Nat.pow_succ]
        exact mk_cons.mpr ⟨k + 1, x', rfl, hxm.1⟩
      · obtain ⟨z, rfl, rfl, h1, h2, h3⟩ := hI
        exact s_set (ev_min (ev_v 2) (ev_v 3)) (fin z h1 h2 h3 _ fun _ _ h => h)
  · obtain ⟨best, y3, rfl, rfl, hm, hg, hle, hall⟩ := hv
    rw [zv_len, List.take_length] at hall
    exact s_ret (ev_v 2) ⟨_, fg_same (ex_new hp1), q best (next_of g hl hmk0 hgt0 hm hg hle hall)⟩
end Px
set_option Elab.async false
set_option linter.all false
set_option maxRecDepth 100000
set_option maxHeartbeats 4000000
namespace Px
open PySem L2 MA
local macro_rules | `(tactic| bv_omega) => `(tactic| first | assumption | omega | exact cm (by omega) | exact cd (by omega) | exact cp (by omega) | exact trivial)
local macro_rules | `(tactic| array_get_dec) => `(tactic| first
  | assumption
  | exact sq_up
  | exact Own.sqi (by assumption) 0 (by rfl)
  | exact Own.sqi (by assumption) 1 (by rfl)
  | exact Own.sqi (by assumption) 2 (by rfl)
  | exact Own.sqi (by assumption) 3 (by rfl)
  | exact Own.sqi (by assumption) 4 (by rfl)
  | exact Own.sq (by assumption) (by assumption)
  | exact sq_new (by assumption) (by assumption))
local macro_rules | `(tactic| clean_wf) => `(tactic| first
  | with_reducible exact ev_c
  | (with_reducible apply ev_v') <;> rfl
  | (with_reducible apply ev_add) <;> clean_wf
  | (with_reducible apply ev_sub) <;> clean_wf
  | (with_reducible apply ev_mul) <;> clean_wf
  | (with_reducible apply ev_mod) <;> clean_wf
  | (with_reducible apply ev_div) <;> clean_wf
  | (with_reducible apply ev_pow) <;> clean_wf
  | (with_reducible apply ev_neg) <;> clean_wf
  | (with_reducible apply ev_lt) <;> clean_wf
  | (with_reducible apply ev_le) <;> clean_wf
  | (with_reducible apply ev_gt) <;> clean_wf
  | (with_reducible apply ev_ge) <;> clean_wf
  | (with_reducible apply ev_eqi) <;> clean_wf
  | (with_reducible apply ev_nei) <;> clean_wf
  | (with_reducible apply ev_len) <;> clean_wf
  | (with_reducible apply ev_ixL) <;> clean_wf
  | (with_reducible apply ev_min) <;> clean_wf
  | (with_reducible apply ev_max) <;> clean_wf
  | (with_reducible apply ev_abs) <;> clean_wf
  | (with_reducible apply ev_intB) <;> clean_wf
  | (with_reducible apply ea_1) <;> clean_wf
  | (with_reducible apply ea_2) <;> clean_wf
  | (with_reducible apply ea_3) <;> clean_wf
  | with_reducible exact ea_nil
  | (with_reducible apply ea_cons) <;> clean_wf
  | with_reducible exact el_nil
  | (with_reducible apply ep_lt) <;> clean_wf
  | (with_reducible apply ep_le) <;> clean_wf
  | (with_reducible apply ep_gt) <;> clean_wf
  | (with_reducible apply ep_ge) <;> clean_wf
  | (with_reducible apply ep_eqi) <;> clean_wf
  | (with_reducible apply ep_nei) <;> clean_wf
  | (with_reducible apply ep_not) <;> clean_wf
  | ((with_reducible apply ep_and) <;> first | (intro _; clean_wf; done) | clean_wf)
  | ((with_reducible apply ep_or) <;> first | (intro _; clean_wf; done) | clean_wf)
  | (with_reducible apply et_t) <;> clean_wf
  | (with_reducible apply eo_is) <;> clean_wf
  | with_reducible exact eo_no
  | array_get_dec
  | bv_omega
  | rfl
  | skip)
local macro_rules | `(tactic| symm_saturate) => `(tactic| first
  | ((with_reducible apply q_set); (focus (clean_wf; done)))
  | ((with_reducible apply s_set); (focus (clean_wf; done)))
  | ((with_reducible apply q_aug (hx := rfl)); (focus (clean_wf; done)))
  | ((with_reducible apply s_aug (hx := rfl)); (focus (clean_wf; done)))
  | ((with_reducible apply q_augC (hx := rfl)); (focus (clean_wf; done)))
  | ((with_reducible apply s_augC (hx := rfl)); (focus (clean_wf; done))))
local macro_rules | `(tactic| subst_eqs) => `(tactic| repeat' (first
  | with_reducible apply w_c
  | ((with_reducible apply w_v'); (focus rfl))
  | with_reducible apply w_op
  | with_reducible apply w_cb
  | with_reducible apply w_cons
  | with_reducible apply w_nil
  | with_reducible apply r_add
  | with_reducible apply r_sub
  | ((with_reducible apply r_mul); (focus (bv_omega; done)))
  | ((with_reducible apply r_div); (focus (bv_omega; done)))
  | ((with_reducible apply r_mod); (focus (bv_omega; done)))
  | ((with_reducible apply r_pow); (focus (bv_omega; done)))
  | with_reducible apply r_lt
  | with_reducible apply r_le
  | with_reducible apply r_gt
  | with_reducible apply r_ge
  | with_reducible apply r_min
  | with_reducible apply r_max
  | with_reducible apply r_intB
  | ((with_reducible apply r_len); (focus (array_get_dec; done)))
  | with_reducible apply w_callW
  | with_reducible apply q_setW
  | with_reducible apply s_setW
  | with_reducible apply s_retW))

theorem gn_uniq {p b x y y' : Nat} (hp : 2 ≤ p) (hx : 0 < x) (hxb : x ≤ b) (g : Gn p b x y) (g' : Gn p b x y') : y = y' := by
  obtain ⟨k, e⟩ := g.pw
  obtain ⟨k', e'⟩ := g'.pw
  have h1 := g.le hxb
  have h2 := g'.le hxb
  have h3 := g'.most hp hx (k := k) (by omega)
  have h4 := g.most hp hx (k := k') (by omega)
  omega
open Classical in
noncomputable def gro (p b x : Nat) : Nat := if h : ∃ y, Gn p b x y then Classical.choose h else 0
theorem gro_eq {p b x y : Nat} (hp : 2 ≤ p) (hx : 0 < x) (hxb : x ≤ b) (g : Gn p b x y) : gro p b x = y := by
  have h : ∃ y, Gn p b x y := ⟨y, g⟩
  unfold gro
  rw [dif_pos h]
  exact gn_uniq hp hx hxb (Classical.choose_spec h) g
theorem gro_is {p b x : Nat} (hp : 2 ≤ p) (hx : 0 < x) (hxb : x ≤ b) : Gn p b x (gro p b x) := by
  have key : ∀ d y k, b - y = d → y = x * p ^ k → y ≤ b → ∃ z, Gn p b x z := by
    intro d
    induction d using Nat.strongRecOn with
    | ind d ih =>
      intro y k hd hy hyb
      by_cases h : y * p ≤ b
      · have hy0 : 0 < y := by rw [hy]; exact Nat.mul_pos hx (Nat.pow_pos (by omega))
        have h2 : y * 2 ≤ y * p := Nat.mul_le_mul_left y hp
        exact ih (b - y * p) (by omega) (y * p) (k + 1) rfl (by rw [hy, Nat.pow_succ, Nat.mul_assoc]) h
      · exact ⟨y, ⟨k, hy⟩, by omega, fun _ => hyb⟩
  obtain ⟨z, hz⟩ := key _ x 0 rfl (by simp) hxb
  rw [gro_eq hp hx hxb hz]
  exact hz
/-! ### the last one -/
/-- what last_one tells -/
def LastV (row : List Nat) (n : Nat) (v : V) : Prop := (n < 2 ∧ v = .non) ∨ ∃ m, 2 ≤ n ∧ IsLast row n m ∧ v = .int (m : Int)
def sp_last_one (K : PySem.W.Frag) : Sp := fun vs H Q _ => Nod H ∧ ∃ (a : Addr) (row : List Nat) (n : Nat), vs = [.ref a, .int (n : Int)] ∧ H a = some (.lst (zv row)) ∧ Rw row ∧ row ≠ [] ∧ Fits (row.drop 1) (n - 1) ∧
  ∀ v, LastV row n v → Q v H
/-- slots: row number rest -/
abbrev n_last_one : List Str := ["row", "number", "rest"]
def t_last_one (K : PySem.W.Frag) : TS := (sFg (tSeq (tDrop (tCall (sp_need_row K) [] E0 (tCons (tVar 0) tNil)))
  (tSeq (tIfS (tTest (tOp oLt (tVar 1) (tC (.int 2)))) (tRet (tC .non)) tNext)
  (tRet (tFg (tCB (rMax K) (tCons (tFg (tLc (iList K (tFg (tCall (sp_made_to K) [] E0 (tCons (tSl (rSlL K) (tVar 0) (tPart (tC (.int 1))) tNoPart) (tCons (tOp oSub (tVar 1) (tC (.int 1))) tNil))))) (gName 2) tYes (tCall (sp_grown K) [] E0 (tCons (tVar 2) (tCons (tOp (rIxL K) (tVar 0) (tC (.int 0))) (tCons (tOp oSub (tVar 1) (tC (.int 1))) tNil)))) [2])) tNil)))))))
theorem r_last_one {K : PySem.W.Frag} {vs : List V} {H : Hp} {Q : VK} {E : XK} (h : sp_last_one K vs H Q E) : t_last_one K { nx := fun _ H' => Q .non H', rt := Q } (start n_last_one vs) H := by
  obtain ⟨nd, a, row, n, rfl, ha, w, hne, f, q⟩ := h
  obtain ⟨p, r, rfl⟩ := List.exists_cons_of_ne_nil hne
  have hp := w.ge List.mem_cons_self
  have g := w.good
  have hb := f.lt
  refine fg_body (need rfl ha w hne (q_whenP (by clean_wf) (fun hc => ?_) fun hc => ?_))
  · exact s_ret ev_c ⟨H, fg_same ex_refl, q _ (.inl ⟨by omega, rfl⟩)⟩
  have hn2 : 2 ≤ n := by omega
  have en : (n : Int) - 1 = ((n - 1 : Nat) : Int) := by omega
  refine s_retW (w_fg (w_cb (w_one (w_fg (w_lcLW (el_rest (b := n - 1) rfl ha w f (fun H1 => ev_eq (ev_sub (ev_v 1) ev_c) (by rw [en])) fun l p1 hl hp1 => ⟨p1, rfl, ⟨_, sq_up⟩, lcat_map (fun i => (gro p (n - 1) i.toNat : Int)) sq_up ?_ (fun _ => rfl) (fun i hi D acc hD => ?_) fun D hD => ?_⟩))))))
  · rw [zl_len, hl.len]
    exact Nat.le_trans (w.tail.fit f) (by omega)
  · obtain ⟨x, hx, rfl⟩ := List.mem_map.mp hi
    have hx0 := mk_pos w.tail.good.ge ((hl.2 x).mp hx).1
    have hxb := ((hl.2 x).mp hx).2
    obtain ⟨hD1, hD2⟩ := none_upd hD
    have hap : a ≠ p1 := ne_of_none ha hp1
    have haD : a ≠ D := ne_of_none ha hD1
    refine ev_call (ea_3 (ev_v 2) (ev_ixL (i := 0) (v := .int (p : Int)) (ev_v 0) ev_c (sq_at (by rw [upd_ne haD, upd_ne hap]; exact ha)) zv_0) (ev_sub (ev_v 1) ev_c)) fun Q q => ⟨inferInstance, x, p, n - 1, by rw [en], hx0, by omega, hp.1, hp.2, by omega, fun y gy => ?_⟩
    rw [← gro_eq hp.1 hx0 hxb gy]
    simpa using q
  · obtain ⟨hD1, hD2⟩ := none_upd hD
    refine ⟨_, fg_newL hD1 (ex_upd hD1 (ex_new hp1)) upd_same, ?_⟩
    have h1l : 1 ∈ l := (hl.2 1).mpr ⟨.one, by omega⟩
    refine ⟨D, _, rfl, sq_up, by rw [List.length_map, zl_len]; exact List.length_pos_of_mem h1l, fun m hm hall => ⟨H, fg_same (ex_new hD1), H, fg_same ex_refl, ?_⟩⟩
    obtain ⟨i, hi, rfl⟩ := List.mem_map.mp hm
    obtain ⟨x, hx, rfl⟩ := List.mem_map.mp hi
    have hxm := (hl.2 x).mp hx
    have gx := gro_is hp.1 (mk_pos w.tail.good.ge hxm.1) hxm.2
    refine q _ (.inr ⟨gro p (n - 1) x, hn2, last_of g hl ?_ ?_ fun z hz k hk => ?_, rfl⟩)
    · obtain ⟨k, e⟩ := gx.pw
      exact mk_cons.mpr ⟨k, x, e, hxm.1⟩
    · have := gx.le hxm.2; omega
    · have hzm := (hl.2 z).mp hz
      have hz0 := mk_pos w.tail.good.ge hzm.1
      have gz := gro_is hp.1 hz0 hzm.2
      have h3 := gz.most hp.1 hz0 hk
      have h4 := hall _ (List.mem_map.mpr ⟨(z : Int), List.mem_map.mpr ⟨z, hz, rfl⟩, rfl⟩)
      simp only [Int.toNat_natCast] at h4
      omega
/-! ### the first so many -/
theorem cmL {x p : Nat} (hx : x < 2 ^ 7000) (hp : p ≤ 97) : CMulW (x : Int) (p : Int) := by
  refine wide_mul (a := 7000) (b := 7) ?_ ?_ (by decide) (by decide) (by decide)
  · rw [Int.natAbs_natCast]; exact hx
  · rw [Int.natAbs_natCast]; omega
def sp_first_ones (K : PySem.W.Frag) : Sp := fun vs H Q _ => Nod H ∧ ∃ (a : Addr) (row : List Nat) (m T : Nat), vs = [.ref a, .int (m : Int)] ∧ H a = some (.lst (zv row)) ∧ Rw row ∧ row ≠ [] ∧ m ≤ 9000000 ∧ m ≤ cnt row T ∧ T < 2 ^ 7000 ∧
  ∀ (p : Addr) (l : List Nat), H p = none → IsFst row m l → Q (.ref p) (upd H p (.lst (zv l)))
/-- slots: row many found places some least place prime one -/
abbrev n_first_ones : List Str := ["row", "many", "found", "places", "some", "least", "place", "prime", "one"]
def t_first_ones (K : PySem.W.Frag) : TS := (sFg (tSeq (tDrop (tCall (sp_need_row K) [] E0 (tCons (tVar 0) tNil)))
  (tSeq (tAsg (tLst (tCons (tC (.int 1)) tNil)) (gName 2))
  (tSeq (tAsg (tFg (tOp rRep (tLst (tCons (tC (.int 0)) tNil)) (tCB (cLen K) (tCons (tVar 0) tNil)))) (gName 3))
  (tSeq (tWhile (tTest (tOp oLt (tCB (cLen K) (tCons (tVar 2) tNil)) (tVar 1))) (tSeq (tAsg (tLc (iZip K (tCons (tVar 3) (tCons (tVar 0) tNil))) (gTup K 2 (gCons (gName 6) (gCons (gName 7) gNil))) tYes (tOp oMul (tOp (rIxL K) (tVar 2) (tVar 6)) (tVar 7)) [6, 7]) (gName 4))
  (tSeq (tAsg (tCB (rMin K) (tCons (tVar 4) tNil)) (gName 5))
  (tSeq (tDrop (tBM K "list" rAppend (tVar 2) (tCons (tVar 5) tNil)))
  (tAsg (tLc (iZip K (tCons (tVar 3) (tCons (tVar 4) tNil))) (gTup K 2 (gCons (gName 6) (gCons (gName 8) gNil))) tYes (tOp oAdd (tVar 6) (tCB cInt (tCons (tOp rEq (tVar 8) (tVar 5)) tNil))) [6, 8]) (gName 3))))))
  (tRet (tSl (rSlL K) (tVar 2) tNoPart (tPart (tVar 1)))))))))
def prods (F pl row : List Nat) : List Nat := (pl.zip row).map fun q => F.getD q.1 0 * q.2
def moved (pl S : List Nat) (m : Nat) : List Nat := (pl.zip S).map fun q => q.1 + if q.2 = m then 1 else 0
theorem prods_len {F pl row : List Nat} (h : pl.length = row.length) : (prods F pl row).length = row.length := by simp [prods, h]
theorem prods_get {F pl row : List Nat} {j k p x : Nat} (h1 : row[j]? = some p) (h2 : pl[j]? = some k) (h3 : F[k]? = some x) : (prods F pl row)[j]? = some (x * p) := by
  unfold prods
  rw [List.getElem?_map, (List.getElem?_zip_eq_some (z := (k, p))).mpr ⟨h2, h1⟩]
  simp [List.getD_eq_getElem?_getD, h3]
theorem moved_get {pl S : List Nat} {j k s m : Nat} (h1 : pl[j]? = some k) (h2 : S[j]? = some s) : (moved pl S m)[j]? = some (k + if s = m then 1 else 0) := by
  unfold moved
  rw [List.getElem?_map, (List.getElem?_zip_eq_some (z := (k, s))).mpr ⟨h1, h2⟩]; rfl
theorem take_snoc {l : List Nat} {i x : Nat} (h : l[i]? = some x) : l.take (i + 1) = l.take i ++ [x] := by rw [List.take_add_one, h]; rfl
theorem zv_some {l : List Nat} {i : Nat} {v : V} (h : (zv l)[i]? = some v) : ∃ x : Nat, l[i]? = some x ∧ v = .int (x : Int) := by
  simp only [List.getElem?_map] at h
  cases e : l[i]? with
  | none => rw [e] at h; cases h
  | some x => rw [e] at h; cases h; exact ⟨x, rfl, rfl⟩
theorem r_first_ones {K : PySem.W.Frag} {vs : List V} {H : Hp} {Q : VK} {E : XK} (h : sp_first_ones K vs H Q E) : t_first_ones K { nx := fun _ H' => Q .non H', rt := Q } (start n_first_ones vs) H := by
  obtain ⟨nd, a, row, m, T, rfl, ha, w, hne, hm, hmT, hT, q⟩ := h
  have g := w.good
  have hl6 := w.le
  have hl0 : 0 < row.length := List.length_pos_iff.mpr hne
  have sa : SqL K H a (zv row) := sq_at ha
  refine fg_body (need rfl ha w hne (q_setL (el_lst (ea_1 ev_c) (by simp)) fun pf hpf => ?_))
  have o : Own H [(pf, zv [1])] (upd H pf (.lst [.int 1])) := Own.nil.new hpf
  refine q_setL (xs := zv (List.replicate row.length 0)) (el_fg fun Q q => w_op (w_evL (el_lst (ea_1 ev_c) (by simp)) fun p1 hp1 => w_ev (ev_len (ev_v 0) (sq_new hp1 (o.sq sa))) ⟨p1, _, _, rfl, rfl, upd_same, by rw [zv_len]; omega, by rw [zv_len]; omega, ?_, fun p2 hp2 => ?_⟩)) fun pp hpp => ?_
  · rw [zv_len]; exact Nat.le_trans (by simp; omega : _ ≤ 1000) (by decide)
  · obtain ⟨h1, h2⟩ := none_upd hp2
    refine q p2 _ h1 (ex_upd h1 (ex_new hp1)) ?_
    rw [upd_same]
    simp
  replace o := o.new (xs := zv (List.replicate row.length 0)) hpp
  refine q_whileP (fun k σ' H' => ∃ (F pl : List Nat) (c : Nat) (pp : Addr) (y4 y5 y6 y7 y8 : Option V), σ' = [some (.ref a), some (.int (m : Int)), some (.ref pf), some (.ref pp), y4, y5, none, none, none] ∧ Own H [(pp, zv pl), (pf, zv F)] H' ∧ FS row F pl c ∧ k = m - F.length ∧ (F.length ≤ m ∨ F.length = 1)) (m - 1)
    ⟨[1], _, 1, pp, none, none, none, none, none, rfl, o, .start g.ge, rfl, .inr rfl⟩ (fun k σ' H' hw => ?_)
  obtain ⟨F, pl, c, pp, y4, y5, y6, y7, y8, rfl, o, fs, rfl, hF⟩ := hw
  have hFc := fs.flen
  refine ⟨_, ep_lt (ev_len (ev_v 2) (o.sqi 1 rfl)) (ev_v 1), fun hc => ?_, fun hc => ?_⟩
  · rw [zv_len] at hc
    have hFm : F.length < m := by omega
    have hcT : c ≤ T := fst_le fs.mkc (by omega : cnt row c ≤ m) hmT
    have hFx : ∀ {j x : Nat}, F[j]? = some x → x ≤ c := fun {j x} hj => by
      have := List.mem_of_getElem? hj
      rw [fs.eq] at this
      exact (allL_mem.mp this).2
    have hpr : ∀ {j p : Nat}, row[j]? = some p → 2 ≤ p ∧ p ≤ 97 := fun hj => w.ge (List.mem_of_getElem? hj)
    have hplen := fs.len
    -- some = [..]
    refine q_setW (w_lcZ (ea_2 (ev_v 3) (ev_v 0) _ ⟨pp, a, zv pl, zv row, rfl, o.sqi 0 rfl, o.sq sa, lcat_zip (fun D i H' => Own H [(D, zv ((prods F pl row).take i)), (pp, zv pl), (pf, zv F)] H') (fun D hD => o.new hD) (fun D i H' hD o => ⟨o.sqi 1 rfl, o.sq sa⟩) (fun x y => rfl) (fun D i x y Tp H' hD hx hy o hTp => ?_) fun D H' hD o => ?_⟩))
    · obtain ⟨k, hk, rfl⟩ := zv_some hx
      obtain ⟨p, hp, rfl⟩ := zv_some hy
      obtain ⟨z, hz, _, _⟩ := fs.ok i p k hp hk
      have hkl : k < F.length := (List.getElem?_eq_some_iff.mp hz).1
      have hzc := hFx hz
      have o2 := o.tup (xs := [V.int (k : Int), .int (p : Int)]) hTp
      have eF : F[k] = z := (List.getElem?_eq_some_iff.mp hz).2
      refine et_yes _ (iteT (ev_mul (i := (z : Int)) (j := (p : Int)) (ev_ixL (i := (k : Int)) (ev_v 2) (ev_v 6) (o2.sqi 2 rfl) (by rw [zv_at hkl, eF])) (ev_v 7) (cmL (by omega) (hpr hp).2) _ ⟨_, o2.atI 0 rfl, ?_, ?_⟩))
      · rw [zv_len, List.length_take]; exact szl (by rw [prods_len hplen]; omega)
      · rw [take_snoc (prods_get hp hk hz), zv_app]
        have := o2.mut (ys := zv ((prods F pl row).take i) ++ [V.int ((z * p : Nat) : Int)]) 0 rfl
        simpa using this
    · rw [zv_len, zv_len, hplen, Nat.min_self, List.take_of_length_le (by rw [prods_len hplen]; omega)] at o
      have hS : 0 < (prods F pl row).length := by rw [prods_len hplen]; exact hl0
      -- least = min(some)
      refine q_setW (w_cb (w_one (w_v 4 ⟨D, zl (prods F pl row), rfl, o.sqi 0 rfl, by rw [zl_len]; exact hS, fun mm hmm hall => ?_⟩)))
      obtain ⟨ms, hms, rfl⟩ := List.mem_map.mp hmm
      have hle : ∀ j p k x : Nat, row[j]? = some p → pl[j]? = some k → F[k]? = some x → ms ≤ x * p := fun j p k x h1 h2 h3 => by
        have := hall _ (List.mem_map.mpr ⟨x * p, List.mem_of_getElem? (prods_get h1 h2 h3), rfl⟩)
        omega
      have hex : ∃ j p k x : Nat, row[j]? = some p ∧ pl[j]? = some k ∧ F[k]? = some x ∧ ms = x * p := by
        obtain ⟨j, hj⟩ := List.mem_iff_getElem?.mp hms
        have hjl : j < row.length := by rw [← prods_len (F := F) hplen]; exact (List.getElem?_eq_some_iff.mp hj).1
        have h1 := List.getElem?_eq_getElem hjl
        have h2 := List.getElem?_eq_getElem (show j < pl.length by omega)
        obtain ⟨x, hx, _, _⟩ := fs.ok j _ _ h1 h2
        refine ⟨j, _, _, x, h1, h2, hx, ?_⟩
        rw [prods_get h1 h2 hx] at hj
        exact (Option.some.inj hj).symm
      have nx := fs.next g hex hle
      -- found.append(least)
      refine q_seq (s_app (o.atI 2 rfl) (by rw [zv_len]; exact szl (by omega)) (ev_v 2) (ev_v 5) ?_)
      rw [zv_one]
      replace o := o.mut (ys := zv (F ++ [ms])) 2 rfl
      refine s_setW (w_lcZ (ea_2 (ev_v 3) (ev_v 4) _ ⟨pp, D, zv pl, zv (prods F pl row), rfl, o.sqi 1 rfl, o.sqi 0 rfl, lcat_zip (fun D2 i H' => Own H [(D2, zv ((moved pl (prods F pl row) ms).take i)), (D, zv (prods F pl row)), (pp, zv pl), (pf, zv (F ++ [ms]))] H') (fun D hD => o.new hD) (fun D i H' hD o => ⟨o.sqi 2 rfl, o.sqi 1 rfl⟩) (fun x y => rfl) (fun D2 i x y Tp H' hD hx hy o hTp => ?_) fun D2 H' hD o => ?_⟩))
      · obtain ⟨k, hk, rfl⟩ := zv_some hx
        obtain ⟨sv, hs, rfl⟩ := zv_some hy
        have o2 := o.tup (xs := [V.int (k : Int), .int (sv : Int)]) hTp
        have hi : i < row.length := by have := (List.getElem?_eq_some_iff.mp hk).1; omega
        refine et_yes _ (iteT (ev_add (i := (k : Int)) (ev_v 6) (ev_intB (ev_eqi (i := (sv : Int)) (j := (ms : Int)) (ev_v 8) (ev_v 5))) _ ⟨_, o2.atI 0 rfl, ?_, ?_⟩))
        · rw [zv_len, List.length_take]; exact szl (by omega)
        · rw [take_snoc (moved_get hk hs), zv_app]
          have := o2.mut (ys := zv ((moved pl (prods F pl row) ms).take i) ++ [V.int ((k + if sv = ms then 1 else 0 : Nat) : Int)]) 0 rfl
          have e : ((k : Int) + if decide ((sv : Int) = (ms : Int)) = true then 1 else 0) = ((k + if sv = ms then 1 else 0 : Nat) : Int) := by
            by_cases h : sv = ms
            · simp [h]
            · have h' : ¬ (sv : Int) = (ms : Int) := by omega
              simp [h, h']
          rw [e]
          simpa using this
      · have hml : (moved pl (prods F pl row) ms).length = pl.length := by simp [moved, prods_len hplen, hplen]
        rw [zv_len, zv_len, prods_len hplen, hplen, Nat.min_self, List.take_of_length_le (by omega)] at o
        refine ⟨m - (F ++ [ms]).length, by simp; omega, F ++ [ms], _, ms, D2, _, _, none, none, none, rfl, o.drop2.drop2, fs.step nx hml (fun j p k x h1 h2 h3 => ?_) hle g.ge, rfl, .inl (by simp; omega)⟩
        rw [moved_get h2 (prods_get h1 h2 h3)]
        split <;> simp
  · rw [zv_len] at hc
    refine s_retL (el_sl (ev_v 2) eo_no (eo_is (ev_v 1)) (o.sqi 1 rfl)) fun pr hpr => ?_
    rw [cut_toN]
    replace o := o.new (xs := zv (F.take m)) hpr
    refine ⟨_, o.ret 0 rfl, q pr _ (o.offI 0 rfl) ?_⟩
    by_cases h0 : m = 0
    · subst h0
      exact .inl ⟨rfl, by simp⟩
    · have : F.length = m := by omega
      rw [List.take_of_length_le (by omega)]
      exact .inr ⟨c, fs.mkc, by omega, fs.eq⟩
end Px
set_option linter.all false
set_option maxHeartbeats 1000000
namespace MA
theorem least_of {P : Nat → Prop} {n : Nat} (h : P n) : ∃ m, P m ∧ ∀ k, P k → m ≤ k := by
  induction n using Nat.strongRecOn with
  | ind n ih =>
    by_cases c : ∃ k, k < n ∧ P k
    · obtain ⟨k, hk, hp⟩ := c
      exact ih k hk hp
    · exact ⟨n, h, fun k hk => by
        rcases Nat.lt_or_ge k n with z | z
        · exact absurd ⟨k, z, hk⟩ c
        · exact z⟩
theorem most_of {P : Nat → Prop} {n b : Nat} (h : P n) (hb : n ≤ b) : ∃ m, P m ∧ m ≤ b ∧ ∀ k, P k → k ≤ b → k ≤ m := by
  obtain ⟨d, ⟨h1, h2⟩, h3⟩ := least_of (P := fun d => P (b - d) ∧ d ≤ b) (n := b - n) ⟨by rw [show b - (b - n) = n by omega]; exact h, by omega⟩
  exact ⟨b - d, h1, by omega, fun k hk hkb => by
    have := h3 (b - k) ⟨by rw [show b - (b - k) = k by omega]; exact hk, by omega⟩
    omega⟩
theorem lt_pow {p n : Nat} (hp : 2 ≤ p) : n < p ^ n := Nat.lt_of_lt_of_le Nat.lt_two_pow_self (Nat.pow_le_pow_left hp n)
theorem next_ex {row : List Nat} (g : Good row) (hne : row ≠ []) (n : Nat) : ∃ m, IsNext row n m := by
  obtain ⟨p, r, rfl⟩ := List.exists_cons_of_ne_nil hne
  obtain ⟨m, ⟨h1, h2⟩, h3⟩ := least_of (P := fun m => Mk (p :: r) m ∧ n < m) (n := p ^ n) ⟨mk_pow List.mem_cons_self n, lt_pow g.head⟩
  exact ⟨m, h1, h2, fun k hk hn => h3 k ⟨hk, hn⟩⟩
theorem last_ex {row : List Nat} {n : Nat} (hn : 2 ≤ n) : ∃ m, IsLast row n m := by
  obtain ⟨m, h1, h2, h3⟩ := most_of (P := Mk row) (n := 1) (b := n - 1) .one (by omega)
  exact ⟨m, h1, by omega, fun k hk hkn => h3 k hk (by omega)⟩
open Classical in
noncomputable def nxt (row : List Nat) (n : Nat) : Nat := if h : ∃ m, IsNext row n m then Classical.choose h else 0
theorem nxt_is {row : List Nat} (g : Good row) (hne : row ≠ []) (n : Nat) : IsNext row n (nxt row n) := by
  have h := next_ex g hne n
  unfold nxt
  rw [dif_pos h]
  exact Classical.choose_spec h
theorem nxt_eq {row : List Nat} {n m : Nat} (h : IsNext row n m) : nxt row n = m := by
  have h' : ∃ m, IsNext row n m := ⟨m, h⟩
  unfold nxt
  rw [dif_pos h']
  exact (Classical.choose_spec h').uniq h
open Classical in
noncomputable def lst (row : List Nat) (n : Nat) : Nat := if h : ∃ m, IsLast row n m then Classical.choose h else 0
theorem lst_is {row : List Nat} {n : Nat} (hn : 2 ≤ n) : IsLast row n (lst row n) := by
  have h := last_ex (row := row) hn
  unfold lst
  rw [dif_pos h]
  exact Classical.choose_spec h
theorem lst_eq {row : List Nat} {n m : Nat} (h : IsLast row n m) : lst row n = m := by
  have h' : ∃ m, IsLast row n m := ⟨m, h⟩
  unfold lst
  rw [dif_pos h']
  exact (Classical.choose_spec h').uniq h
noncomputable def nth (row : List Nat) : Nat → Nat
  | 0 => 1
  | k + 1 => nxt row (nth row k)
theorem nth_mk {row : List Nat} (g : Good row) (hne : row ≠ []) : ∀ k, Mk row (nth row k)
  | 0 => .one
  | k + 1 => (nxt_is g hne _).made
theorem cnt_one {row : List Nat} (g : ∀ p ∈ row, 2 ≤ p) : cnt row 1 = 1 := by rw [show (1 : Nat) = 0 + 1 from rfl, cnt_yes .one, cnt_zero g]
theorem nth_cnt {row : List Nat} (g : Good row) (hne : row ≠ []) : ∀ k, cnt row (nth row k) = k + 1
  | 0 => cnt_one g.ge
  | k + 1 => by
    show cnt row (nxt row (nth row k)) = _
    rw [cnt_next (nxt_is g hne _), nth_cnt g hne k]
theorem nth_all {row : List Nat} (g : Good row) (hne : row ≠ []) : ∀ k, allL row (nth row k) = (List.range (k + 1)).map (nth row)
  | 0 => by
    have h : allL row 1 = allL row 0 ++ [1] := allL_succ_yes .one
    show allL row 1 = _
    rw [h, show allL row 0 = [] from List.length_eq_zero_iff.mp (cnt_zero g.ge)]
    rfl
  | k + 1 => by
    show allL row (nxt row (nth row k)) = _
    rw [allL_next (nxt_is g hne _), nth_all g hne k, List.range_succ (n := k + 1), List.map_append]
    rfl
noncomputable def fst (row : List Nat) (m : Nat) : List Nat := (List.range m).map (nth row)
theorem fst_len {row : List Nat} {m : Nat} : (fst row m).length = m := by simp [fst]
theorem fst_get {row : List Nat} {m i : Nat} (h : i < m) : (fst row m)[i]? = some (nth row i) := by simp [fst, h]
theorem fst_is {row : List Nat} (g : Good row) (hne : row ≠ []) (m : Nat) : IsFst row m (fst row m) := by
  cases m with
  | zero => exact .inl ⟨rfl, rfl⟩
  | succ m => exact .inr ⟨nth row m, nth_mk g hne m, nth_cnt g hne m, (nth_all g hne m).symm⟩
theorem fst_eq {row l : List Nat} (g : Good row) (hne : row ≠ []) {m : Nat} (h : IsFst row m l) : l = fst row m := h.uniq g.ge (fst_is g hne m)
theorem nth_le {row : List Nat} (g : Good row) (hne : row ≠ []) {k T : Nat} (h : k < cnt row T) : nth row k ≤ T := fst_le (nth_mk g hne k) (Nat.le_of_eq (nth_cnt g hne k)) h
/-- a made number stands at its place -/
theorem nth_of {row : List Nat} (g : Good row) (hne : row ≠ []) {n : Nat} (h : Mk row n) : nth row (cnt row n - 1) = n := by
  have h0 := cnt_pos (row := row) (mk_pos g.ge h)
  exact mk_inj (nth_mk g hne _) h (by rw [nth_cnt g hne]; omega)
theorem fst_all {row : List Nat} (g : Good row) (hne : row ≠ []) (b : Nat) : fst row (cnt row b) = allL row b := by
  by_cases h : b = 0
  · subst h
    rw [cnt_zero g.ge, show allL row 0 = [] from List.length_eq_zero_iff.mp (cnt_zero g.ge)]; rfl
  · have h0 := cnt_pos (row := row) (b := b) (by omega)
    have e : allL row (nth row (cnt row b - 1)) = allL row b := by
      have hle := nth_le g hne (k := cnt row b - 1) (T := b) (by omega)
      refine (allL_gap hle fun n h1 h2 hn => ?_).symm
      have h3 := cnt_lt h1 hn
      rw [nth_cnt g hne] at h3
      have := cnt_mono (row := row) h2
      omega
    rw [← e, nth_all g hne, show cnt row b - 1 + 1 = cnt row b by omega]; rfl
/-- enough of them: the powers of one prime -/
theorem cnt_pow {row : List Nat} {p : Nat} (hp : p ∈ row) (h2 : 2 ≤ p) (k : Nat) : k + 1 ≤ cnt row (p ^ k) := by
  have : ((List.range (k + 1)).map fun i => p ^ i).length ≤ cnt row (p ^ k) := cnt_le ?_ fun n hn => by
    obtain ⟨i, hi, rfl⟩ := List.mem_map.mp hn
    exact ⟨mk_pow hp i, Nat.pow_le_pow_right (by omega) (by have := List.mem_range.mp hi; omega)⟩
  · simpa using this
  · refine List.pairwise_map.mpr (List.nodup_range.imp fun ne e => ne ?_)
    exact (Nat.pow_right_inj (by omega)).mp e
end MA
set_option Elab.async false
set_option linter.all false
set_option maxRecDepth 100000
set_option maxHeartbeats 4000000
namespace Px
open PySem L2 MA
local macro_rules | `(tactic| bv_omega) => `(tactic| first | assumption | omega | exact cm (by omega) | exact cd (by omega) | exact cp (by omega) | exact trivial)
local macro_rules | `(tactic| array_get_dec) => `(tactic| first
  | assumption
  | exact sq_up
  | exact Own.sqi (by assumption) 0 (by rfl)
  | exact Own.sqi (by assumption) 1 (by rfl)
  | exact Own.sqi (by assumption) 2 (by rfl)
  | exact Own.sqi (by assumption) 3 (by rfl)
  | exact Own.sqi (by assumption) 4 (by rfl)
  | exact Own.sq (by assumption) (by assumption)
  | exact sq_new (by assumption) (by assumption))
local macro_rules | `(tactic| clean_wf) => `(tactic| first
  | with_reducible exact ev_c
  | (with_reducible apply ev_v') <;> rfl
  | (with_reducible apply ev_add) <;> clean_wf
  | (with_reducible apply ev_sub) <;> clean_wf
  | (with_reducible apply ev_mul) <;> clean_wf
  | (with_reducible apply ev_mod) <;> clean_wf
  | (with_reducible apply ev_div) <;> clean_wf
  | (with_reducible apply ev_pow) <;> clean_wf
  | (with_reducible apply ev_neg) <;> clean_wf
  | (with_reducible apply ev_lt) <;> clean_wf
  | (with_reducible apply ev_le) <;> clean_wf
  | (with_reducible apply ev_gt) <;> clean_wf
  | (with_reducible apply ev_ge) <;> clean_wf
  | (with_reducible apply ev_eqi) <;> clean_wf
  | (with_reducible apply ev_nei) <;> clean_wf
  | (with_reducible apply ev_len) <;> clean_wf
  | (with_reducible apply ev_ixL) <;> clean_wf
  | (with_reducible apply ev_min) <;> clean_wf
  | (with_reducible apply ev_max) <;> clean_wf
  | (with_reducible apply ev_abs) <;> clean_wf
  | (with_reducible apply ev_intB) <;> clean_wf
  | (with_reducible apply ea_1) <;> clean_wf
  | (with_reducible apply ea_2) <;> clean_wf
  | (with_reducible apply ea_3) <;> clean_wf
  | with_reducible exact ea_nil
  | (with_reducible apply ea_cons) <;> clean_wf
  | with_reducible exact el_nil
  | (with_reducible apply ep_lt) <;> clean_wf
  | (with_reducible apply ep_le) <;> clean_wf
  | (with_reducible apply ep_gt) <;> clean_wf
  | (with_reducible apply ep_ge) <;> clean_wf
  | (with_reducible apply ep_eqi) <;> clean_wf
  | (with_reducible apply ep_nei) <;> clean_wf
  | (with_reducible apply ep_not) <;> clean_wf
  | ((with_reducible apply ep_and) <;> first | (intro _; clean_wf; done) | clean_wf)
  | ((with_reducible apply ep_or) <;> first | (intro _; clean_wf; done) | clean_wf)
  | (with_reducible apply et_t) <;> clean_wf
  | (with_reducible apply eo_is) <;> clean_wf
  | with_reducible exact eo_no
  | array_get_dec
  | bv_omega
  | rfl
  | skip)
local macro_rules | `(tactic| symm_saturate) => `(tactic| first
  | ((with_reducible apply q_set); (focus (clean_wf; done)))
  | ((with_reducible apply s_set); (focus (clean_wf; done)))
  | ((with_reducible apply q_aug (hx := rfl)); (focus (clean_wf; done)))
  | ((with_reducible apply s_aug (hx := rfl)); (focus (clean_wf; done)))
  | ((with_reducible apply q_augC (hx := rfl)); (focus (clean_wf; done)))
  | ((with_reducible apply s_augC (hx := rfl)); (focus (clean_wf; done))))
local macro_rules | `(tactic| subst_eqs) => `(tactic| repeat' (first
  | with_reducible apply w_c
  | ((with_reducible apply w_v'); (focus rfl))
  | with_reducible apply w_op
  | with_reducible apply w_cb
  | with_reducible apply w_cons
  | with_reducible apply w_nil
  | with_reducible apply r_add
  | with_reducible apply r_sub
  | ((with_reducible apply r_mul); (focus (bv_omega; done)))
  | ((with_reducible apply r_div); (focus (bv_omega; done)))
  | ((with_reducible apply r_mod); (focus (bv_omega; done)))
  | ((with_reducible apply r_pow); (focus (bv_omega; done)))
  | with_reducible apply r_lt
  | with_reducible apply r_le
  | with_reducible apply r_gt
  | with_reducible apply r_ge
  | with_reducible apply r_min
  | with_reducible apply r_max
  | with_reducible apply r_intB
  | ((with_reducible apply r_len); (focus (array_get_dec; done)))
  | with_reducible apply w_callW
  | with_reducible apply q_setW
  | with_reducible apply s_setW
  | with_reducible apply s_retW))

/-- a row stands at a -/
structure RowAt (H : Hp) (a : Addr) (row : List Nat) : Prop where
  at_ : H a = some (.lst (zv row))
  w : Rw row
  ne : row ≠ []
theorem RowAt.ex {H H' : Hp} {a : Addr} {row : List Nat} (r : RowAt H a row) (e : Ex H H') : RowAt H' a row := ⟨e _ _ r.at_, r.w, r.ne⟩
theorem RowAt.g {H : Hp} {a : Addr} {row : List Nat} (r : RowAt H a row) : Good row := r.w.good
theorem RowAt.sq {K : PySem.W.Frag} {H : Hp} {a : Addr} {row : List Nat} (r : RowAt H a row) : SqL K H a (zv row) := sq_at r.at_
theorem RowAt.len {H : Hp} {a : Addr} {row : List Nat} (r : RowAt H a row) : 0 < row.length ∧ row.length ≤ 6 := ⟨List.length_pos_iff.mpr r.ne, r.w.le⟩
theorem topN_next {row : List Nat} (w : Rw row) (hne : row ≠ []) {n : Nat} (h : n ≤ topN row) : Fits (row.drop 1) (n * 97) ∧ n < 2 ^ 63 := by
  have h0 : 0 < row.length := List.length_pos_iff.mpr hne
  have := w.le
  unfold topN at h
  unfold Fits
  rw [List.length_drop]
  split at h <;> omega
section
variable {K : PySem.W.Frag} {σ : L2.St} {H : Hp} {ta tb tc : TE} {a : Addr} {row : List Nat} {b n lo hi m T : Nat}
open Classical in
theorem e_made [nd : Nod H] (r : RowAt H a row) (ha : Ev ta σ H (.ref a)) (hb : Ev tb σ H (.int (n : Int))) : Ev (tCall (sp_is_made_of K) [] E0 (tCons ta (tCons tb tNil))) σ H (.bl (decide (0 < n ∧ Mk row n))) := ev_call (ea_2 ha hb) fun Q q => ⟨nd, a, row, n, rfl, r.at_, r.w, r.ne, q⟩
theorem e_many [nd : Nod H] (r : RowAt H a row) (f : Fits row b) (ha : Ev ta σ H (.ref a)) (hb : Ev tb σ H (.int (b : Int))) : Ev (tCall (sp_many_to K) [] E0 (tCons ta (tCons tb tNil))) σ H (.int (cnt row b : Int)) := ev_call (ea_2 ha hb) fun Q q => ⟨nd, a, row, b, rfl, r.at_, r.w, r.ne, f, q⟩
theorem e_between [nd : Nod H] (r : RowAt H a row) (f : Fits row hi) (ha : Ev ta σ H (.ref a)) (hb : Ev tb σ H (.int (lo : Int))) (hc : Ev tc σ H (.int (hi : Int))) : Ev (tCall (sp_many_between K) [] E0 (tCons ta (tCons tb (tCons tc tNil)))) σ H (.int (if hi < lo then 0 else (cnt row hi : Int) - (cnt row (lo - 1) : Int))) := ev_call (ea_3 ha hb hc) fun Q q => ⟨nd, a, row, lo, hi, rfl, r.at_, r.w, r.ne, f, q⟩
theorem e_next [nd : Nod H] (r : RowAt H a row) (f : Fits (row.drop 1) (n * 97) ∧ n < 2 ^ 63) (ha : Ev ta σ H (.ref a)) (hb : Ev tb σ H (.int (n : Int))) : Ev (tCall (sp_next_one K) [] E0 (tCons ta (tCons tb tNil))) σ H (.int (nxt row n : Int)) := ev_call (ea_2 ha hb) fun Q q => ⟨nd, a, row, n, rfl, r.at_, r.w, r.ne, f.1, f.2, fun m hm => by rw [nxt_eq hm] at q; exact q⟩
noncomputable def lastV (row : List Nat) (n : Nat) : V := if n < 2 then .non else .int (lst row n : Int)
theorem e_last [nd : Nod H] (r : RowAt H a row) (f : Fits (row.drop 1) (n - 1)) (ha : Ev ta σ H (.ref a)) (hb : Ev tb σ H (.int (n : Int))) : Ev (tCall (sp_last_one K) [] E0 (tCons ta (tCons tb tNil))) σ H (lastV row n) := ev_call (ea_2 ha hb) fun Q q => ⟨nd, a, row, n, rfl, r.at_, r.w, r.ne, f, fun v hv => by
  rcases hv with ⟨h1, rfl⟩ | ⟨m, h1, h2, rfl⟩
  · rw [lastV, if_pos h1] at q; exact q
  · rw [lastV, if_neg (by omega), lst_eq h2] at q; exact q⟩
theorem e_all [nd : Nod H] (r : RowAt H a row) (f : Fits row b) (ha : Ev ta σ H (.ref a)) (hb : Ev tb σ H (.int (b : Int))) : EvL (tCall (sp_all_to K) [] E0 (tCons ta (tCons tb tNil))) σ H (zv (allL row b)) := el_call (ea_2 ha hb) fun Q q => ⟨nd, a, row, b, rfl, r.at_, r.w, r.ne, f, q⟩
theorem e_first [nd : Nod H] (r : RowAt H a row) (hm : m ≤ 9000000 ∧ m ≤ cnt row T) (hT : T < 2 ^ 7000) (ha : Ev ta σ H (.ref a)) (hb : Ev tb σ H (.int (m : Int))) : EvL (tCall (sp_first_ones K) [] E0 (tCons ta (tCons tb tNil))) σ H (zv (fst row m)) := el_call (ea_2 ha hb) fun Q q => ⟨nd, a, row, m, T, rfl, r.at_, r.w, r.ne, hm.1, hm.2, hT, fun p l hp hl => by rw [fst_eq r.g r.ne hl]; exact q p hp⟩
end
/-! ### by place -/
def sp_one_at (K : PySem.W.Frag) : Sp := fun vs H Q _ => Nod H ∧ ∃ (a : Addr) (row : List Nat) (k T : Nat), vs = [.ref a, .int (k : Int)] ∧ RowAt H a row ∧ k < 9000000 ∧ k < cnt row T ∧ T < 2 ^ 7000 ∧ Q (.int (nth row k : Int)) H
/-- slots: row place -/
abbrev n_one_at : List Str := ["row", "place"]
def t_one_at (K : PySem.W.Frag) : TS := (sFg (tSeq (tDrop (tCall (sp_need_row K) [] E0 (tCons (tVar 0) tNil)))
  (tSeq (tIfS (tOr (tNot (tB (tCall (sp_is_whole K) [] E0 (tCons (tVar 1) tNil)))) (tTest (tOp oLt (tVar 1) (tC (.int 0))))) tNever tNext)
  (tRet (tFg (tOp (rIxL K) (tCall (sp_first_ones K) [] E0 (tCons (tVar 0) (tCons (tOp oAdd (tVar 1) (tC (.int 1))) tNil))) (tVar 1)))))))
theorem r_one_at {K : PySem.W.Frag} {vs : List V} {H : Hp} {Q : VK} {E : XK} (h : sp_one_at K vs H Q E) : t_one_at K { nx := fun _ H' => Q .non H', rt := Q } (start n_one_at vs) H := by
  obtain ⟨nd, a, row, k, T, rfl, r, hk, hkT, hT, q⟩ := h
  refine fg_body (need rfl r.at_ r.w r.ne (q_never (ep_or (ep_not (ep_b (ev_call (v := .bl true) (ea_1 (ev_v 1)) fun Q q => ⟨nd, _, rfl, q⟩))) fun _ => by clean_wf) (by simp) ?_))
  refine s_ret (ev_pick (v := .int (nth row k : Int)) (e_first (m := k + 1) (T := T) r ⟨by omega, by omega⟩ hT (ev_v 0) (ev_eq (ev_add (i := (k : Int)) (ev_v 1) ev_c) rfl)) (fun p hp => ev_v 1) ?_) ⟨H, fg_same ex_refl, q⟩
  exact at_of rfl (zv_get (fst_get (by omega)))
def sp_place_of (K : PySem.W.Frag) : Sp := fun vs H Q _ => Nod H ∧ ∃ (a : Addr) (row : List Nat) (n : Nat), vs = [.ref a, .int (n : Int)] ∧ RowAt H a row ∧ Mk row n ∧ Fits row n ∧ Q (.int ((cnt row n - 1 : Nat) : Int)) H
/-- slots: row thing -/
abbrev n_place_of : List Str := ["row", "thing"]
def t_place_of (K : PySem.W.Frag) : TS := (sFg (tSeq (tIfS (tNot (tB (tCall (sp_is_made_of K) [] E0 (tCons (tVar 0) (tCons (tVar 1) tNil))))) tNever tNext)
  (tRet (tOp oSub (tCall (sp_many_to K) [] E0 (tCons (tVar 0) (tCons (tVar 1) tNil))) (tC (.int 1))))))
open Classical in
theorem r_place_of {K : PySem.W.Frag} {vs : List V} {H : Hp} {Q : VK} {E : XK} (h : sp_place_of K vs H Q E) : t_place_of K { nx := fun _ H' => Q .non H', rt := Q } (start n_place_of vs) H := by
  obtain ⟨nd, a, row, n, rfl, r, hm, f, q⟩ := h
  have h0 := mk_pos r.g.ge hm
  have hc := cnt_pos (row := row) h0
  refine fg_body (q_never (ep_not (ep_bd (e_made r (ev_v 0) (ev_v 1)))) (fun z => z ⟨h0, hm⟩) (s_ret (ev_eq (ev_sub (e_many r f (ev_v 0) (ev_v 1)) ev_c) ?_) ⟨H, fg_same ex_refl, q⟩))
  congr 1
  omega
end Px
set_option linter.all false
set_option maxHeartbeats 1000000
namespace MA
/-! ### counting by the split, with fuel -/
def cntF : Nat → List Nat → Nat → Nat
  | 0, _, _ => 0
  | _ + 1, [], b => if b = 0 then 0 else 1
  | f + 1, p :: r, b => if b = 0 then 0 else cntF f r b + cntF f (p :: r) (b / p)
theorem cnt_nil_eq {b : Nat} (h : b ≠ 0) : cnt [] b = 1 := by rw [← (all_nil (b := b) (by omega)).len]; rfl
theorem cntF_eq : ∀ (f : Nat) (row : List Nat) (b k : Nat), Good row → b < 2 ^ k → row.length + k < f → cntF f row b = cnt row b
  | 0, _, _, _, _, _, h => by omega
  | f + 1, [], b, k, g, _, _ => by
    show (if b = 0 then 0 else 1) = _
    by_cases h : b = 0
    · subst h; rw [if_pos rfl, cnt_zero g.ge]
    · rw [if_neg h, cnt_nil_eq h]
  | f + 1, p :: r, b, k, g, hb, hf => by
    show (if b = 0 then 0 else cntF f r b + cntF f (p :: r) (b / p)) = _
    by_cases h : b = 0
    · subst h; rw [if_pos rfl, cnt_zero g.ge]
    · rw [List.length_cons] at hf
      cases k with
      | zero => simp at hb; omega
      | succ k =>
        have hp := g.head
        have h1 : b / p ≤ b / 2 := Nat.div_le_div_left hp (by omega)
        rw [Nat.pow_succ] at hb
        rw [if_neg h, cntF_eq f r b (k + 1) g.tail (by rw [Nat.pow_succ]; omega) (by omega), cntF_eq f (p :: r) (b / p) k g (by omega) (by rw [List.length_cons]; omega), ← cnt_split g]
theorem cnt_c {row : List Nat} {b c : Nat} (g : Good row) (hb : b < 2 ^ 70) (hl : row.length ≤ 6) (h : cntF 80 row b = c) : cnt row b = c := by rw [← h]; exact (cntF_eq 80 row b 70 g hb (by omega)).symm
theorem mk_of_cnt {row : List Nat} {m : Nat} (h : cnt row m = cnt row (m - 1) + 1) : Mk row m := by
  cases m with
  | zero => simp at h
  | succ m =>
    by_cases c : Mk row (m + 1)
    · exact c
    · rw [cnt_no c] at h; simp at h
theorem next_of_cnt {row : List Nat} {n m : Nat} (hlt : n < m) (h1 : cnt row (m - 1) = cnt row n) (h2 : cnt row m = cnt row n + 1) : IsNext row n m := ⟨mk_of_cnt (by omega), hlt, fun k hk hnk => by
  rcases Nat.lt_or_ge k m with z | z
  · have h3 := cnt_lt hnk hk
    have h4 := cnt_mono (row := row) (a := k) (b := m - 1) (by omega)
    omega
  · exact z⟩
theorem last_of_cnt {row : List Nat} {n m : Nat} (hlt : m < n) (h1 : cnt row (n - 1) = cnt row m) (h2 : cnt row m = cnt row (m - 1) + 1) : IsLast row n m := ⟨mk_of_cnt h2, hlt, fun k hk hkn => by
  rcases Nat.lt_or_ge m k with z | z
  · have h3 := cnt_lt z hk
    have h4 := cnt_mono (row := row) (a := k) (b := n - 1) (by omega)
    omega
  · exact z⟩
theorem allL_c {row l : List Nat} {b : Nat} (g : Good row) (hl : row.length ≤ 6) (hb : b < 2 ^ 60) (h : l = (List.range (b + 1)).filter fun n => decide (n ≠ 0) && decide (cntF 80 row n ≠ cntF 80 row (n - 1))) : allL row b = l := by
  have e : IsAll row b l := by
    rw [h]
    refine ⟨pair_nodup (List.pairwise_lt_range.sublist List.filter_sublist), fun n => ?_⟩
    rw [List.mem_filter, List.mem_range, Bool.and_eq_true, decide_eq_true_eq, decide_eq_true_eq]
    constructor
    · rintro ⟨h1, h2, h3⟩
      rw [cntF_eq 80 row n 70 g (by omega) (by omega), cntF_eq 80 row (n - 1) 70 g (by omega) (by omega)] at h3
      refine ⟨?_, by omega⟩
      obtain ⟨m, rfl⟩ : ∃ m, n = m + 1 := ⟨n - 1, by omega⟩
      by_cases c : Mk row (m + 1)
      · exact c
      · rw [cnt_no c] at h3; simp at h3
    · rintro ⟨h1, h2⟩
      have h0 := mk_pos g.ge h1
      refine ⟨by omega, by omega, ?_⟩
      rw [cntF_eq 80 row n 70 g (by omega) (by omega), cntF_eq 80 row (n - 1) 70 g (by omega) (by omega)]
      obtain ⟨m, rfl⟩ : ∃ m, n = m + 1 := ⟨n - 1, by omega⟩
      rw [cnt_yes h1]; simp
  refine (e.eq ?_).symm
  rw [h]
  exact List.pairwise_lt_range.sublist List.filter_sublist
/-! ### the row without its last prime -/
theorem last_perm {row : List Nat} {p : Nat} (h : row.getLast? = some p) : row.Perm (p :: row.dropLast) := by
  obtain ⟨ys, rfl⟩ := List.getLast?_eq_some_iff.mp h
  rw [List.dropLast_concat]
  exact List.perm_append_comm
theorem last_ex_row {row : List Nat} (h : row ≠ []) : ∃ p, row.getLast? = some p ∧ p ∈ row := ⟨row.getLast h, List.getLast?_eq_some_getLast h, List.getLast_mem h⟩
theorem last_good {row : List Nat} {p : Nat} (g : Good row) (h : row.getLast? = some p) : Good (p :: row.dropLast) := g.perm (last_perm h).symm
end MA
set_option linter.all false
set_option maxHeartbeats 1000000
namespace MA
/-! ### one prime more, level by level -/
structure Lv (r L : List Nat) (p b : Nat) (F A : List Nat) (j : Nat) : Prop where
  nd : F.Nodup
  na : A.Nodup
  made : ∀ y ∈ F, Mk (p :: r) y ∧ y ≤ b
  hL : ∀ y ∈ L, y ∈ F
  aj : ∀ y ∈ A, y ∈ F ∧ ∃ m ∈ L, y = m * p ^ j
  cl : ∀ x ∈ F, x ∉ A → x * p ≤ b → x * p ∈ F
  low : ∀ y ∈ F, ∃ m ∈ L, ∃ i, i ≤ j ∧ y = m * p ^ i
theorem Lv.start {r L : List Nat} {p b : Nat} (h : IsAll r b L) : Lv r L p b L L 0 := ⟨h.1, h.1, fun y hy => ⟨mk_mono (fun _ z => List.mem_cons_of_mem _ z) ((h.2 y).mp hy).1, ((h.2 y).mp hy).2⟩, fun _ h => h, fun y hy => ⟨hy, y, hy, by simp⟩, fun x hx hn => absurd hx hn, fun y hy => ⟨y, hy, 0, Nat.le_refl _, by simp⟩⟩
def lvUp (p b : Nat) (A : List Nat) : List Nat := (A.filter fun x => decide (x * p ≤ b)).map (· * p)
theorem lvUp_mem {p b y : Nat} {A : List Nat} : y ∈ lvUp p b A ↔ ∃ x ∈ A, x * p ≤ b ∧ y = x * p := by
  unfold lvUp
  rw [List.mem_map]
  constructor
  · rintro ⟨x, hx, rfl⟩
    rw [List.mem_filter, decide_eq_true_eq] at hx
    exact ⟨x, hx.1, hx.2, rfl⟩
  · rintro ⟨x, h1, h2, rfl⟩
    exact ⟨x, by rw [List.mem_filter, decide_eq_true_eq]; exact ⟨h1, h2⟩, rfl⟩
theorem Lv.step {r L F A : List Nat} {p b j : Nat} (v : Lv r L p b F A j) (g : Good (p :: r)) (h0 : IsAll r b L) : Lv r L p b (F ++ lvUp p b A) (lvUp p b A) (j + 1) := by
  have hp := g.head
  have hLm : ∀ m ∈ L, ¬ p ∣ m := fun m hm => g.ndvd ((h0.2 m).mp hm).1
  have up : ∀ y ∈ lvUp p b A, ∃ m ∈ L, y = m * p ^ (j + 1) := fun y hy => by
    obtain ⟨x, hx, _, rfl⟩ := lvUp_mem.mp hy
    obtain ⟨_, m, hm, rfl⟩ := v.aj x hx
    exact ⟨m, hm, by rw [Nat.pow_succ, Nat.mul_assoc]⟩
  have hna : (lvUp p b A).Nodup := List.pairwise_map.mpr ((v.na.sublist List.filter_sublist).imp fun ne e => ne (Nat.eq_of_mul_eq_mul_right (by omega) e))
  refine ⟨?_, hna, fun y hy => ?_, fun y hy => List.mem_append_left _ (v.hL y hy), fun y hy => ⟨List.mem_append_right _ hy, up y hy⟩, fun x hx hn hb => ?_, fun y hy => ?_⟩
  · rw [List.nodup_append]
    refine ⟨v.nd, hna, fun a ha c hc e => ?_⟩
    subst e
    obtain ⟨m, hm, i, hi, e1⟩ := v.low a ha
    obtain ⟨m', hm', e2⟩ := up a hc
    have := (split_eq hp (hLm m hm) (hLm m' hm') (e1.symm.trans e2)).1
    omega
  · rcases List.mem_append.mp hy with z | z
    · exact v.made y z
    · obtain ⟨x, hx, hb, rfl⟩ := lvUp_mem.mp z
      exact ⟨by rw [Nat.mul_comm]; exact .mul List.mem_cons_self (v.made x (v.aj x hx).1).1, hb⟩
  · rcases List.mem_append.mp hx with z | z
    · by_cases ha : x ∈ A
      · exact List.mem_append_right _ (lvUp_mem.mpr ⟨x, ha, hb, rfl⟩)
      · exact List.mem_append_left _ (v.cl x z ha hb)
    · exact absurd z hn
  · rcases List.mem_append.mp hy with z | z
    · obtain ⟨m, hm, i, hi, e⟩ := v.low y z
      exact ⟨m, hm, i, by omega, e⟩
    · obtain ⟨m, hm, e⟩ := up y z
      exact ⟨m, hm, j + 1, Nat.le_refl _, e⟩
theorem Lv.len {r L F A : List Nat} {p b j : Nat} (v : Lv r L p b F A j) : F.length ≤ cnt (p :: r) b := cnt_le v.nd v.made
theorem Lv.fin {r L F : List Nat} {p b j : Nat} (v : Lv r L p b F [] j) (g : Good (p :: r)) (h0 : IsAll r b L) : IsAll (p :: r) b F := grow g h0 v.nd v.made v.hL fun x hx hb => v.cl x hx (by simp) hb
theorem Lv.lt {r L F A : List Nat} {p b j : Nat} (v : Lv r L p b F A j) (g : Good (p :: r)) (h0 : IsAll r b L) (hb : b < 2 ^ 70) (hA : A ≠ []) : j < 70 := by
  obtain ⟨y, t, rfl⟩ := List.exists_cons_of_ne_nil hA
  obtain ⟨h1, m, hm, e⟩ := v.aj y List.mem_cons_self
  have h2 := (v.made y h1).2
  have h3 := mk_pos g.tail.ge ((h0.2 m).mp hm).1
  have h4 : 1 * 2 ^ j ≤ m * p ^ j := Nat.mul_le_mul h3 (Nat.pow_le_pow_left g.head j)
  rcases Nat.lt_or_ge j 70 with z | z
  · exact z
  · have := Nat.pow_le_pow_right (show 0 < 2 by omega) z
    omega
theorem Lv.alen {r L F A : List Nat} {p b j : Nat} (v : Lv r L p b F A j) : A.length ≤ cnt (p :: r) b := Nat.le_trans (len_le v.na fun n hn => (v.aj n hn).1) v.len
/-! ### neighbours -/
open Classical in
noncomputable def nb (row : List Nat) (b : Nat) : List Nat := (allL row b).filter fun x => decide (Mk row (x + 1))
open Classical in
theorem nb_mem {row : List Nat} {b x : Nat} : x ∈ nb row b ↔ (Mk row x ∧ x ≤ b) ∧ Mk row (x + 1) := by
  unfold nb
  rw [List.mem_filter, allL_mem, decide_eq_true_eq]
theorem nb_pair (row : List Nat) (b : Nat) : (nb row b).Pairwise (· < ·) := (allL_pair row b).sublist List.filter_sublist
theorem nb_eq {row l : List Nat} {b : Nat} (hp : l.Pairwise (· < ·)) (h : ∀ x, x ∈ l ↔ (Mk row x ∧ x ≤ b) ∧ Mk row (x + 1)) : l = nb row b := eq_of_pair hp (nb_pair _ _) fun n => (h n).trans nb_mem.symm
theorem nb_len {row : List Nat} {b : Nat} : (nb row b).length ≤ cnt row b := List.length_filter_le _ _
/-- those whose follower in a rising list is one more -/
def adj : List Nat → List Nat
  | x :: y :: r => if y = x + 1 then x :: adj (y :: r) else adj (y :: r)
  | _ => []
theorem adj_sub : ∀ l : List Nat, (adj l).Sublist l
  | [] => .slnil
  | [x] => by rw [adj]; exact List.nil_sublist _; simp
  | x :: y :: r => by
    rw [adj]
    split
    · exact (adj_sub (y :: r)).cons₂ _
    · exact (adj_sub (y :: r)).cons _
theorem adj_mem : ∀ {l : List Nat}, l.Pairwise (· < ·) → ∀ {x : Nat}, x ∈ adj l ↔ x ∈ l ∧ x + 1 ∈ l
  | [], _, x => by simp [adj]
  | [a], _, x => by
    simp only [adj, List.not_mem_nil, List.mem_singleton, false_iff]
    omega
  | a :: b :: r, h, x => by
    have h1 := (List.pairwise_cons.mp h).1
    have h2 := (List.pairwise_cons.mp h).2
    have ih := adj_mem h2 (x := x)
    have hab := h1 b List.mem_cons_self
    have hr : ∀ z ∈ r, b < z := fun z hz => (List.pairwise_cons.mp h2).1 z hz
    rw [adj]
    have e1 : x + 1 ∈ a :: b :: r ↔ x + 1 = a ∨ x + 1 ∈ b :: r := List.mem_cons
    have e2 : x ∈ a :: b :: r ↔ x = a ∨ x ∈ b :: r := List.mem_cons
    have n1 : x ∈ b :: r → x + 1 ≠ a := fun hx e => by have := h1 x hx; omega
    by_cases hc : b = a + 1
    · rw [if_pos hc, List.mem_cons, ih, e1, e2]
      constructor
      · rintro (rfl | ⟨h3, h4⟩)
        · exact ⟨.inl rfl, .inr (by rw [← hc]; exact List.mem_cons_self)⟩
        · exact ⟨.inr h3, .inr h4⟩
      · rintro ⟨rfl | h3, h4⟩
        · exact .inl rfl
        · exact .inr ⟨h3, h4.resolve_left (n1 h3)⟩
    · rw [if_neg hc, ih, e1, e2]
      constructor
      · rintro ⟨h3, h4⟩; exact ⟨.inr h3, .inr h4⟩
      · rintro ⟨rfl | h3, h4⟩
        · rcases h4 with h4 | h4
          · omega
          · rcases List.mem_cons.mp h4 with h5 | h5
            · exact absurd h5.symm hc
            · have := hr _ h5; omega
        · exact ⟨h3, h4.resolve_left (n1 h3)⟩
theorem nb_adj {row : List Nat} {b : Nat} : ((adj (allL row (b + 1))).filter fun x => decide (x ≤ b)) = nb row b := by
  refine nb_eq (((allL_pair row (b + 1)).sublist (adj_sub _)).sublist List.filter_sublist) fun x => ?_
  rw [List.mem_filter, adj_mem (allL_pair _ _), allL_mem, allL_mem, decide_eq_true_eq]
  constructor
  · rintro ⟨⟨⟨h1, h2⟩, h3, h4⟩, h5⟩; exact ⟨⟨h1, h5⟩, h3⟩
  · rintro ⟨⟨h1, h2⟩, h3⟩; exact ⟨⟨⟨h1, by omega⟩, h3, by omega⟩, h2⟩
end MA
set_option Elab.async false
set_option linter.all false
set_option maxRecDepth 100000
set_option maxHeartbeats 4000000
/-! sorted(set(xs)), xs a list of ints: after the kit's set of a tuple and its sorted set of few -/
namespace Px
open PySem PySem.Spec PyProof.Rows L2
section
variable {P : Program} {w : World} {A : Around} {E : Value → Shared → Prop} {s : Shared}
/-- the new empty set -/
abbrev eS (w : World) : Obj := { cls := .type "set", dict := none, data := .set #[] 0 (.fresh 0 0 (!w.params.followText "set-order")) }
theorem set_init {l : Addr} {items : Array Value} (ns : List Int) {R : Result → Shared → Prop} (hh : A.handled = none) (hl : s.heap.IsList l items) (hit : IntsAre items.toList ns) (hb : ns.length + 1 < scanBound)
    (h : ∀ (h' : Heap) (tk c : Nat), SetR w h' s.heap.objs.size (fun j => decide (j ∈ ns)) c → c ≤ ns.length → (∀ b o, s.heap.get? b = some o → h'.get? b = some o) → R (.ok (.ret .none)) { s with heap := h', toks := tk }) :
    wpAny (model P w) A.in1 (Builtin.«set.__init__» ⟨[.ref s.heap.objs.size, .ref l], []⟩)
      (fun fin s' => match fin with | .done f => R (.ok f) s' | .again c' => c'.quiet = true ∧ codeAny (model P w) A c' R s') (fun x s' => R (.error x) s') { s with heap := s.heap.push (eS w) } := by
  have hisz : items.size = ns.length := by
    have q := IntsAre.length hit
    rw [Array.length_toList] at q
    exact q
  have hS : (s.heap.push (eS w)).get? s.heap.objs.size = some (eS w) := Heap.get?_push_size _ rfl
  have hT : Shared.TypeIs { s with heap := s.heap.push (eS w) } (.ref s.heap.objs.size) "set" := ⟨_, hS, rfl⟩
  obtain ⟨ol, hol, hcl, nl, hdl⟩ := hl
  obtain ⟨ocls, odict, odata, oslots⟩ := ol
  simp only at hcl hdl
  subst hcl; subst hdl
  have hol' : (s.heap.push (eS w)).get? l = some { cls := .type "list", dict := odict, data := .seq items nl, slots := oslots } := Heap.get?_push_of_some _ hol
  have hsls := F.sub_list_set
  have hslf := F.sub_list_frozenset
  have hne : (Value.type "list" == Value.type "dict") = false := by decide
  have hl1 : (s.heap.push (eS w)).IsList l items := ⟨_, hol', rfl, nl, rfl⟩
  unfold Builtin.«set.__init__» noKeywords Builtin.Frozenset.updateFrom
  generalize hPI : pyIter = PI
  wp_walk
  subst hPI
  refine wpAny_pyIter_list hl1 ?_
  refine wpAny_bind (wpAny_runValue ?_)
  have hlS : l < s.heap.objs.size := Heap.lt_size hol
  have hz1 : (s.heap.push (eS w)).objs.size = s.heap.objs.size + 1 := Heap.size_push ..
  have hneI : l ≠ (s.heap.push (eS w)).objs.size := by rw [hz1]; exact Nat.ne_of_lt (Nat.lt_succ_of_lt hlS)
  have hSf : s.heap.objs.size ∉ [(s.heap.push (eS w)).objs.size, l] := by
    rw [hz1]; simp only [List.mem_cons, List.mem_singleton, List.not_mem_nil, or_false, not_or]
    exact ⟨Nat.ne_of_lt (Nat.lt_succ_self _), Nat.ne_of_gt hlS⟩
  have hval : ∀ (i : Nat) (v : Value), items[i]? = some v → ∃ k t, ns[i]? = some k ∧ v = .int k t := fun i v hv => by
    have hi : i < ns.length := by rw [← hisz]; exact (Array.getElem?_eq_some_iff.mp hv).1
    obtain ⟨t, e⟩ := PyProof.Rows.IntsAre.int_at hit i v (by rw [Array.getElem?_toList]; exact hv)
    refine ⟨ns[i], t, List.getElem?_eq_getElem hi, ?_⟩
    rw [e, List.getD_eq_getElem?_getD, List.getElem?_eq_getElem hi] <;> rfl
  refine set_update_ints ((Walks.list (A := A.in1.in1) hh _ l hneI items).toS) s.heap.objs.size hSf ns hisz hb hval (items.size - 0) 0 _ (by omega) (Nat.zero_le _) ⟨⟨_, Heap.get?_push_size _ rfl, rfl, rfl⟩, (hl1.push _)⟩ ⟨0, Nat.le_refl 0, setR_new_at (Heap.get?_push_of_some _ hS)⟩ ?_
  intro s' c' hm hc' hS'
  obtain ⟨h', g2, d', tk', os'⟩ := s'
  have eg : g2 = s.gens := hm.gens
  have ed : d' = s.drawn := hm.drawn
  have eo : os' = s.os := hm.os
  subst eg; subst ed; subst eo
  show wpAny _ _ _ _ _ _
  refine wpAny_pure ?_
  show wpAny _ _ (ret Value.none) _ _ _
  rw [hisz] at hc'
  refine wpAny_pure (h h' tk' c' hS' hc' fun b o e => ?_)
  have hb0 : b < s.heap.objs.size := Heap.lt_size e
  exact hm.heap b o (by simp only [List.mem_cons, List.mem_singleton, List.not_mem_nil, or_false, not_or]; exact ⟨Nat.ne_of_lt hb0, by rw [hz1]; exact Nat.ne_of_lt (Nat.lt_succ_of_lt hb0)⟩) (Heap.get?_push_of_some _ (Heap.get?_push_of_some _ e))
theorem set_list {l : Addr} {items : Array Value} (ns : List Int) {Q : Value → Shared → Prop} (hh : A.handled = none) (hl : s.heap.IsList l items) (hit : IntsAre items.toList ns) (hb : ns.length + 1 < scanBound)
    (h : ∀ (h' : Heap) (tk c : Nat), SetR w h' s.heap.objs.size (fun j => decide (j ∈ ns)) c → c ≤ ns.length → (∀ b o, s.heap.get? b = some o → h'.get? b = some o) → Q (.ref s.heap.objs.size) { s with heap := h', toks := tk }) :
    wpAny (model P w) A (call (.type "set") [.ref l]) Q E s := by
  obtain ⟨c, tl, hmro⟩ := F.called_set.mro
  have hmade := F.called_set.made
  have hsub := F.called_set.sub
  refine wpAny_call (codeAny_of_tree ?_)
  show wpAny _ _ (callAny (.type "set") _) _ _ _
  refine wpAny_pure ⟨Code.quiet_builtin _ (by decide +kernel), codeAny_builtin F.entry_type_call ?_⟩
  rw [Around.under_plain (weight_type_call_type "set" [.ref l] []) rfl]
  have h1 := F.called_set.notType
  have h2 := F.called_set.canCreate
  have hct := F.typeCall_set_1 (.ref l)
  repeat (any_goals (first | assumption | wp_step))
  refine codeAny_mono (code_set_led1 (.ref l) (E := E) (Q₁ := fun obj s₁ => obj = .ref s.heap.objs.size ∧ s₁ = { s with heap := s.heap.push (eS w) }) ⟨rfl, rfl⟩) fun r s₁ hr => ?_
  cases r with
  | error e => exact hr
  | ok fl =>
    cases fl with
    | ret obj =>
      obtain ⟨rfl, rfl⟩ := hr
      have hT : Shared.TypeIs { s with heap := s.heap.push (eS w) } (.ref s.heap.objs.size) "set" := ⟨_, Heap.get?_push_size _ rfl, rfl⟩
      have hli := F.called_set.init.lookup
      have hbi := F.called_set.init.bind (.ref s.heap.objs.size)
      repeat (any_goals (first | assumption | wp_step))
      refine codeAny_mono (codeAny_call_builtin (R := wants (fun r s₂ => r = .none ∧ ∃ h' tk c, s₂ = { s with heap := h', toks := tk } ∧ SetR w h' s.heap.objs.size (fun j => decide (j ∈ ns)) c ∧ c ≤ ns.length ∧
          (∀ b o, s.heap.get? b = some o → h'.get? b = some o)) E) F.called_set.init.plain F.entry_set_init (check_set_init_1 hT ?_)) fun r₂ s₂ hr₂ => ?_
      · exact set_init ns (by simp [hh]) hl hit hb fun h' tk c k1 k2 k3 => ⟨rfl, h', tk, c, rfl, k1, k2, k3⟩
      · cases r₂ with
        | error e => exact hr₂
        | ok fl₂ =>
          cases fl₂ with
          | ret r =>
            obtain ⟨rfl, h', tk, c', rfl, hS', hc', hk'⟩ := hr₂
            repeat (any_goals (first | assumption | wp_step))
            exact h _ _ _ hS' hc' hk'
          | _ => exact hr₂.elim
    | _ => exact hr.elim
theorem sorted_setO {a : Addr} {S : Int → Bool} {n : Nat} {Q : Value → Shared → Prop} (R : SetR w s.heap a S n) (hh : A.handled = none)
    (hQ : ∀ s' p (out : List Value) (c : Nat) (ns : List Int), (∀ b o, s.heap.get? b = some o → s'.heap.get? b = some o) → s'.gens = s.gens → s'.os = s.os → s.heap.objs.size ≤ p →
      s'.heap.get? p = some (seqObj "list" out.toArray c) → IntsAre out ns → ns.Pairwise (· < ·) → (∀ k, k ∈ ns ↔ S k = true) → ns.length = n → Q (.ref p) s') :
    wpAny (model P w) A (call (.builtin "sorted") [.ref a]) Q E s := by
  obtain ⟨o, es, ep, t, ho, hex, hd, g, nd, hm, hb, hf, hn, hr, hl⟩ := R
  refine Calls.call_function_entry kind_sorted plain_sorted entry_sorted (args_sorted1 _) ?_
  unfold Builtin.«sorted»
  refine wpAny_bind (m := checkCount "sorted" 1 1 _) (wpAny_pure ?_)
  refine wpAny_bind (collect_set (A := A.in1) hh ⟨o, ho, hex.1, hd⟩ hf hb hr hl fun s1 vs k1 hz g1 o1 pm => ?_)
  have hvl : vs.length = n := by rw [pm.length_eq, List.length_map, Array.length_toList]; exact hn
  have hvs : vs.length ≤ sizeLine := by rw [hvl, ← hn]; exact fits_of_scanBound hb
  have hI : IntsAre vs (vs.map Builtin.Re.reRawOf) := ints_of vs fun v hv => by
    obtain ⟨e, he, q⟩ := List.mem_map.mp (pm.mem_iff.mp hv)
    obtain ⟨k, tk, h1, _⟩ := g e he
    exact ⟨k, tk, by rw [← q]; exact h1⟩
  have pk : (vs.map Builtin.Re.reRawOf).Perm (es.toList.map keyOf) := by
    have q := pm.map Builtin.Re.reRawOf
    rw [List.map_map] at q
    exact q
  refine wpAny_bind (wpAny_newList ?_ hvs)
  have hoL : (s1.heap.push (seqObj "list" vs.toArray 0)).get? s1.heap.objs.size = some (seqObj "list" vs.toArray 0) := Heap.get?_push_size _ rfl
  refine wpAny_bind (wpAny_holding (wpAny_call_entry slot_list_sort ⟨_, hoL, rfl⟩ entry_list_sort (SrtO.list_sort_ord SrtO.swo_int hoL hvs (fun h2 => SrtO.ints_sortable hI h2) fun out b1 b2 => ⟨_, rfl, ?_⟩) (args_list_sort _)))
  obtain ⟨a1, a2, a3⟩ := SrtO.ints_out hI b1 b2
  obtain ⟨c, hc⟩ := sortedHeap_at (vs := vs) (out := out.toArray) hoL
  have pn : (out.map SrtO.iv).Perm (es.toList.map keyOf) := a2.trans pk
  refine wpAny_pure ⟨_, rfl, hQ _ s1.heap.objs.size out c _ (fun b u e => ?_) g1 o1 hz hc a1 (lt_of_le_nodup _ a3 (pn.nodup_iff.mpr nd)) (fun k => by rw [pn.mem_iff, ← hm k]) ?_⟩
  · have q := k1 b u e
    have hlt := Heap.lt_size q
    show (sortedHeap (s1.heap.push (seqObj "list" vs.toArray 0)) s1.heap.objs.size vs out.toArray).get? b = some u
    rw [sortedHeap_old (Nat.ne_of_lt hlt) (by rw [size_push']; exact Nat.lt_succ_of_lt hlt)]
    exact Heap.get?_push_of_some _ q
  · rw [pn.length_eq, List.length_map, Array.length_toList]; exact hn
end
/-- sorted(set(e)) -/
def tSortSet (K : PySem.W.Frag) (ta : TA) : TE := fun σ H Q => ta σ H fun vs H1 => ∃ (a : Addr) (ns : List Int), vs = [.ref a] ∧ SqL K H1 a (ns.map V.int) ∧ ns.length ≤ 4000 ∧
  ∀ (p : Addr) (ns' : List Int), H1 p = none → ns'.Pairwise (· < ·) → (∀ k, k ∈ ns' ↔ k ∈ ns) → Q (.ref p) (upd H1 p (.lst (ns'.map V.int)))
theorem pe_sortSet {X : Cx} {e : Expr} {ta : TA} {p1 p2 pos1 pos2 : Pos} (hg1 : Gl X "sorted") (hm1 : X.mg "sorted" = none) (hg2 : Gl X "set") (hm2 : X.mg "set" = none) (hc : X.calm = true) (ha : PA X [e] ta) (hs : starEach [e] X.env = [(false, eval e X.env)] := by rfl)
    (hs2 : starEach [.Call (.Name "set" p2) [e] [] pos2] X.env = [(false, eval (.Call (.Name "set" p2) [e] [] pos2) X.env)] := by rfl) :
    PE X (.Call (.Name "sorted" p1) [.Call (.Name "set" p2) [e] [] pos2] [] pos1) (tSortSet X.K ta) := by
  refine ⟨fun pins s σ H Q I h => ?_⟩
  refine wpAny_Call_Name_kw (ld_blt I hg1 hm1 (show bootBuiltins "sorted" = some (.builtin "sorted") by decide +kernel) ?_ (by decide) (by decide))
  refine PyProof.Rows.callWith_builtin1 ?_ hs2 rfl
  rw [hs2]
  refine Calls.spliced_cons (thn (Q := fun v s1 => wpAny (model X.prog X.w) X.A (call (.builtin "sorted") [v]) (EP X pins σ Q) X.xe s1) ?_ fun v s1 h1 => Calls.spliced_nil h1)
  refine wpAny_Call_Name_kw (ld_blt I hg2 hm2 PyProof.Rows.boot_set ?_ (by decide) (by decide))
  refine PyProof.Rows.callWith_type1 (thn (ha.run pos2 pins s σ H _ I h) fun us s1 ⟨vs, H1, I1, r1, q1⟩ => ?_) hs rfl
  obtain ⟨a, ns, ex, hq, hl, q⟩ := q1
  subst ex
  cases r1 with
  | cons r rr =>
    cases rr
    cases r
    obtain ⟨its, rv, p', hz⟩ := I1.list hq
    have hi : IntsAre its.toArray.toList ns := rv.ints
    have hd := I1.ok.hd hc
    refine set_list ns hd p'.isList hi (by unfold scanBound; omega) fun h' tk c R1 hcn k => ?_
    refine sorted_setO (s := { s1 with heap := h', toks := tk }) R1 hd fun s2 p out c2 ns' k2 g2 o2 hp hob hI hpw hmem hlen => ?_
    have kall : ∀ b u, s1.heap.get? b = some u → s2.heap.get? b = some u := fun b u e => k2 b u (k b u e)
    have hlt : s1.heap.objs.size < h'.objs.size := R1.lt
    have hle : s1.heap.objs.size ≤ p := Nat.le_trans (Nat.le_of_lt hlt) hp
    have hln : H1 p = none := I1.hok.fresh hle
    refine ⟨.ref p, upd H1 p (.lst (ns'.map V.int)), ?_, rfl, q p ns' hln hpw fun j => by rw [hmem j, decide_eq_true_eq]⟩
    have hlen2 : (ns'.map V.int).length ≤ sizeLine := by rw [List.length_map, hlen, sizeLine_eq]; omega
    exact I1.call' (ch := []) o2 (Un.laid kall hle hln) (I1.hok.laid kall hle ⟨hlen2, out, c2, vals_of_ints hI, hob⟩) (by rw [g2]; exact I1.bare) (fun _ z => nomatch z)
end Px
set_option Elab.async false
set_option linter.all false
set_option maxRecDepth 100000
set_option maxHeartbeats 4000000
namespace Px
open PySem L2 MA
section
variable {K : PySem.W.Frag} {σ : L2.St} {H : Hp} {ta te : TE}
theorem zl_lt {ns : List Int} {l : List Nat} (h : ∀ k, k ∈ ns ↔ k ∈ zl l) (hp : ns.Pairwise (· < ·)) : ∃ l' : List Nat, ns = zl l' ∧ l'.Pairwise (· < ·) ∧ ∀ n, n ∈ l' ↔ n ∈ l := by
  have h0 : ∀ k ∈ ns, ((k.toNat : Nat) : Int) = k := fun k hk => by
    obtain ⟨n, _, rfl⟩ := List.mem_map.mp ((h k).mp hk)
    simp
  have e : ns = zl (ns.map Int.toNat) := by
    show ns = (ns.map Int.toNat).map (fun (x : Nat) => (x : Int))
    rw [List.map_map]
    exact (List.map_congr_left (g := id) (fun k hk => h0 k hk)).trans (List.map_id _) |>.symm
  refine ⟨ns.map Int.toNat, e, ?_, fun n => ?_⟩
  · rw [List.pairwise_map]
    refine hp.imp_of_mem fun {x y} hx hy hxy => ?_
    have := h0 x hx
    have := h0 y hy
    omega
  · constructor
    · intro hn
      obtain ⟨k, hk, rfl⟩ := List.mem_map.mp hn
      obtain ⟨n, hn, e⟩ := List.mem_map.mp ((h k).mp hk)
      rw [← e]; simpa using hn
    · intro hn
      exact List.mem_map.mpr ⟨(n : Int), (h _).mpr (List.mem_map.mpr ⟨n, hn, rfl⟩), by simp⟩
theorem w_sortSet {a : Addr} {l : List Nat} {Q : VK} (h : Ev te σ H (.ref a)) (hx : SqL K H a (zv l)) (hz : l.length ≤ 4000) (k : ∀ p l', H p = none → l'.Pairwise (· < ·) → (∀ n, n ∈ l' ↔ n ∈ l) → Q (.ref p) (upd H p (.lst (zv l')))) : tSortSet K (tCons te tNil) σ H Q :=
  ea_1 h _ ⟨a, zl l, rfl, hx, by rw [zl_len]; exact hz, fun p ns' hp hw hk => by
    obtain ⟨l', rfl, h1, h2⟩ := zl_lt hk hw
    exact k p l' hp h1 h2⟩
end
end Px
set_option Elab.async false
set_option linter.all false
set_option maxRecDepth 100000
set_option maxHeartbeats 4000000
namespace Px
open PySem L2 MA
def SS (K : PySem.W.Frag) (vs : List V) (H : Hp) (Q : VK) : Prop := ∃ (a : Addr) (ns : List Int), vs = [.ref a] ∧ SqL K H a (ns.map V.int) ∧ ns.length ≤ 4000 ∧
  ∀ (p : Addr) (ns' : List Int), H p = none → ns'.Pairwise (· < ·) → (∀ k, k ∈ ns' ↔ k ∈ ns) → Q (.ref p) (upd H p (.lst (ns'.map V.int)))
section
variable {K : PySem.W.Frag} {σ : L2.St} {H : Hp} {ta tb te : TE} {Q : VK}
theorem w_ssW (h : te σ H fun v H1 => SS K [v] H1 Q) : tSortSet K (tCons te tNil) σ H Q := h
theorem ss_of {a : Addr} {l : List Nat} (hx : SqL K H a (zv l)) (hz : l.length ≤ 4000) (k : ∀ p l', H p = none → l'.Pairwise (· < ·) → (∀ n, n ∈ l' ↔ n ∈ l) → Q (.ref p) (upd H p (.lst (zv l')))) : SS K [.ref a] H Q :=
  ⟨a, zl l, rfl, hx, by rw [zl_len]; exact hz, fun p ns' hp hw hk => by
    obtain ⟨l', rfl, h1, h2⟩ := zl_lt hk hw
    exact k p l' hp h1 h2⟩
theorem w_next {D : Ends} (h : D.nx σ H) : tNext D σ H := h
theorem w_slW {tl th : TO} (h : te σ H fun x H1 => tl σ H1 fun lo H2 => th σ H2 fun hi H3 => rSlL K x lo hi H3 Q) : tSl (rSlL K) te tl th σ H Q := h
/-- a test that leaves something behind: what holds behind it is told once -/
theorem w_via {T : (Bool → Hp → Prop) → Prop} {R : Bool → Hp → Prop} (I : Hp → Prop) (b : Bool) (h : ∀ R' : Bool → Hp → Prop, (∀ H5, I H5 → R' b H5) → T R') (k : ∀ H5, I H5 → R b H5) : T R := h R k
theorem ev_in {l : List Nat} {x : Nat} {p : Addr} (ha : Ev ta σ H (.int (x : Int))) (hb : Ev tb σ H (.ref p)) (s : SqL K H p (zv l)) : Ev (tOp (rIn K false) ta tb) σ H (.bl (decide (x ∈ l))) :=
  ev_op ha hb fun Q q => ⟨p, zv l, rfl, .inl s, rfl, zv_flat _, by
    rw [inV_iff]
    exact q⟩
theorem ev_nin {l : List Nat} {x : Nat} {p : Addr} (ha : Ev ta σ H (.int (x : Int))) (hb : Ev tb σ H (.ref p)) (s : SqL K H p (zv l)) : Ev (tOp (rIn K true) ta tb) σ H (.bl (!decide (x ∈ l))) :=
  ev_op ha hb fun Q q => ⟨p, zv l, rfl, .inl s, rfl, zv_flat _, by
    rw [inV_iff]
    exact q⟩
end
/-- filters by a test of naturals -/
theorem filt_nat (P : Nat → Bool) (p : Int → Bool) : ∀ l : List Nat, (∀ x ∈ l, p (x : Int) = P x) → (((zl l).filter p).map fun j => j) = zl (l.filter P)
  | [], _ => rfl
  | y :: r, hp => by
    have ih := filt_nat P p r fun x hx => hp x (List.mem_cons_of_mem _ hx)
    show ((((y : Int) :: zl r).filter p).map fun j => j) = _
    have e := hp y List.mem_cons_self
    by_cases h : P y = true
    · rw [List.filter_cons_of_pos (by rw [e]; exact h), List.filter_cons_of_pos h, List.map_cons, ih]; rfl
    · rw [List.filter_cons_of_neg (by rw [e]; exact h), List.filter_cons_of_neg h, ih]
end Px
set_option Elab.async false
set_option linter.all false
set_option maxRecDepth 100000
set_option maxHeartbeats 4000000
namespace Px
open PySem L2
section
variable {K : PySem.W.Frag} {σ : L2.St} {H : Hp} {te : TE} {Q : VK} {D : Ends} {s1 s2 s3 : TS}
/-- what holds behind one statement, behind two -/
theorem q_oneI (I : L2.St → Hp → Prop) (h : ∀ N : L2.St → Hp → Prop, (∀ σ' H', I σ' H' → N σ' H') → s1 { D with nx := N } σ H) (k : ∀ σ' H', I σ' H' → s2 D σ' H') : tSeq s1 s2 D σ H := h _ k
theorem q_twoI (I : L2.St → Hp → Prop) (h : ∀ N : L2.St → Hp → Prop, (∀ σ' H', I σ' H' → N σ' H') → tSeq s1 s2 { D with nx := N } σ H) (k : ∀ σ' H', I σ' H' → s3 D σ' H') : tSeq s1 (tSeq s2 s3) D σ H := h _ k
theorem w_rev (h : te σ H fun x H1 => ∃ a xs, x = .ref a ∧ SqL K H1 a xs ∧ ∀ p, H1 p = none → Q (.ref p) (upd H1 p (.lst xs.reverse))) : tRevL K te σ H Q := h
end
end Px
set_option Elab.async false
set_option linter.all false
set_option maxRecDepth 100000
set_option maxHeartbeats 4000000
namespace Px
open PySem L2 MA
local macro_rules | `(tactic| bv_omega) => `(tactic| first | assumption | omega | exact cm (by omega) | exact cd (by omega) | exact cp (by omega) | exact trivial)
local macro_rules | `(tactic| array_get_dec) => `(tactic| first
  | assumption
  | exact sq_up
  | exact Own.sqi (by assumption) 0 (by rfl)
  | exact Own.sqi (by assumption) 1 (by rfl)
  | exact Own.sqi (by assumption) 2 (by rfl)
  | exact Own.sqi (by assumption) 3 (by rfl)
  | exact Own.sqi (by assumption) 4 (by rfl)
  | exact Own.sq (by assumption) (by assumption)
  | exact sq_new (by assumption) (by assumption))
local macro_rules | `(tactic| clean_wf) => `(tactic| first
  | with_reducible exact ev_c
  | (with_reducible apply ev_v') <;> rfl
  | (with_reducible apply ev_add) <;> clean_wf
  | (with_reducible apply ev_sub) <;> clean_wf
  | (with_reducible apply ev_mul) <;> clean_wf
  | (with_reducible apply ev_mod) <;> clean_wf
  | (with_reducible apply ev_div) <;> clean_wf
  | (with_reducible apply ev_pow) <;> clean_wf
  | (with_reducible apply ev_neg) <;> clean_wf
  | (with_reducible apply ev_lt) <;> clean_wf
  | (with_reducible apply ev_le) <;> clean_wf
  | (with_reducible apply ev_gt) <;> clean_wf
  | (with_reducible apply ev_ge) <;> clean_wf
  | (with_reducible apply ev_eqi) <;> clean_wf
  | (with_reducible apply ev_nei) <;> clean_wf
  | (with_reducible apply ev_len) <;> clean_wf
  | (with_reducible apply ev_ixL) <;> clean_wf
  | (with_reducible apply ev_min) <;> clean_wf
  | (with_reducible apply ev_max) <;> clean_wf
  | (with_reducible apply ev_abs) <;> clean_wf
  | (with_reducible apply ev_intB) <;> clean_wf
  | (with_reducible apply ea_1) <;> clean_wf
  | (with_reducible apply ea_2) <;> clean_wf
  | (with_reducible apply ea_3) <;> clean_wf
  | with_reducible exact ea_nil
  | (with_reducible apply ea_cons) <;> clean_wf
  | with_reducible exact el_nil
  | (with_reducible apply ep_lt) <;> clean_wf
  | (with_reducible apply ep_le) <;> clean_wf
  | (with_reducible apply ep_gt) <;> clean_wf
  | (with_reducible apply ep_ge) <;> clean_wf
  | (with_reducible apply ep_eqi) <;> clean_wf
  | (with_reducible apply ep_nei) <;> clean_wf
  | (with_reducible apply ep_not) <;> clean_wf
  | ((with_reducible apply ep_and) <;> first | (intro _; clean_wf; done) | clean_wf)
  | ((with_reducible apply ep_or) <;> first | (intro _; clean_wf; done) | clean_wf)
  | (with_reducible apply et_t) <;> clean_wf
  | (with_reducible apply eo_is) <;> clean_wf
  | with_reducible exact eo_no
  | array_get_dec
  | bv_omega
  | rfl
  | skip)
local macro_rules | `(tactic| symm_saturate) => `(tactic| first
  | ((with_reducible apply q_set); (focus (clean_wf; done)))
  | ((with_reducible apply s_set); (focus (clean_wf; done)))
  | ((with_reducible apply q_aug (hx := rfl)); (focus (clean_wf; done)))
  | ((with_reducible apply s_aug (hx := rfl)); (focus (clean_wf; done)))
  | ((with_reducible apply q_augC (hx := rfl)); (focus (clean_wf; done)))
  | ((with_reducible apply s_augC (hx := rfl)); (focus (clean_wf; done))))
local macro_rules | `(tactic| subst_eqs) => `(tactic| repeat' (first
  | with_reducible apply w_c
  | ((with_reducible apply w_v'); (focus rfl))
  | with_reducible apply w_op
  | with_reducible apply w_cb
  | with_reducible apply w_cons
  | with_reducible apply w_nil
  | with_reducible apply r_add
  | with_reducible apply r_sub
  | ((with_reducible apply r_mul); (focus (bv_omega; done)))
  | ((with_reducible apply r_div); (focus (bv_omega; done)))
  | ((with_reducible apply r_mod); (focus (bv_omega; done)))
  | ((with_reducible apply r_pow); (focus (bv_omega; done)))
  | with_reducible apply r_lt
  | with_reducible apply r_le
  | with_reducible apply r_gt
  | with_reducible apply r_ge
  | with_reducible apply r_min
  | with_reducible apply r_max
  | with_reducible apply r_intB
  | ((with_reducible apply r_len); (focus (array_get_dec; done)))
  | with_reducible apply w_callW
  | with_reducible apply q_setW
  | with_reducible apply s_setW
  | with_reducible apply s_retW))

/-! ### a row -/
def sp_law_row (K : PySem.W.Frag) : Sp := fun vs H Q _ => Nod H ∧ ∃ (a : Addr) (ds : List Int) (m : Nat), vs = [.ref a, .int (m : Int)] ∧ H a = some (.lst (ds.map V.int)) ∧ DrOk ds ∧ 1 ≤ m ∧ m ≤ 6 ∧
  ∀ (p : Addr) (row : List Nat) (ds' : List Int), p ≠ a → H p = none → Rw row → row ≠ [] → row.length ≤ m → DrOk ds' → Q (.ref p) (upd (upd H a (.lst (ds'.map V.int))) p (.lst (zv row)))
/-- slots: draws most every many way found k left prime -/
abbrev n_law_row : List Str := ["draws", "most", "every", "many", "way", "found", "k", "left", "prime"]
def t_law_row (K : PySem.W.Frag) : TS := (sFg (tSeq (tAsg (tLst (tCons (tC (.int 2)) (tCons (tC (.int 3)) (tCons (tC (.int 5)) (tCons (tC (.int 7)) (tCons (tC (.int 11)) (tCons (tC (.int 13)) (tCons (tC (.int 17)) (tCons (tC (.int 19)) (tCons (tC (.int 23)) (tCons (tC (.int 29)) (tCons (tC (.int 31)) (tCons (tC (.int 37)) (tCons (tC (.int 41)) (tCons (tC (.int 43)) (tCons (tC (.int 47)) (tCons (tC (.int 53)) (tCons (tC (.int 59)) (tCons (tC (.int 61)) (tCons (tC (.int 67)) (tCons (tC (.int 71)) (tCons (tC (.int 73)) (tCons (tC (.int 79)) (tCons (tC (.int 83)) (tCons (tC (.int 89)) (tCons (tC (.int 97)) tNil)))))))))))))))))))))))))) (gName 2))
  (tSeq (tAsg (tOp oAdd (tC (.int 1)) (tCall (sp_law_take K) [] E0 (tCons (tVar 0) (tCons (tVar 1) tNil)))) (gName 3))
  (tSeq (tAsg (tCall (sp_law_take K) [] E0 (tCons (tVar 0) (tCons (tC (.int 4)) tNil))) (gName 4))
  (tSeq (tAsg (tLst tNil) (gName 5))
  (tSeq (tFor (iRng1 (tCons (tVar 3) tNil)) (gName 6) (tSeq (tAsg (tLc (iList K (tVar 2)) (gName 8) (tTest (tOp (rIn K true) (tVar 8) (tVar 5))) (tVar 8) [8]) (gName 7))
  (tSeq (tIfS (tTest (tOp rEq (tVar 4) (tC (.int 1)))) (tAsg (tSl (rSlL K) (tVar 7) tNoPart (tPart (tC (.int 1)))) (gName 7)) tNext)
  (tSeq (tIfS (tTest (tOp rEq (tVar 4) (tC (.int 2)))) (tAsg (tSl (rSlL K) (tVar 7) tNoPart (tPart (tC (.int 5)))) (gName 7)) tNext)
  (tDrop (tBM K "list" rAppend (tVar 5) (tCons (tOp (rIxL K) (tVar 7) (tOp oMod (tCall (sp_law_take K) [] E0 (tCons (tVar 0) (tCons (tC (.int 1000)) tNil))) (tCB (cLen K) (tCons (tVar 7) tNil)))) tNil)))))))
  (tRet (tCB (rSortedI K) (tCons (tVar 5) tNil)))))))))
theorem pr25 : PR.length = 25 := rfl
/-- the primes that are left -/
theorem left_len {F : List Nat} (h : F.length ≤ 6) : 19 ≤ (PR.filter fun x => !decide (x ∈ F)).length := by
  have h1 : PR.length ≤ ((PR.filter fun x => !decide (x ∈ F)) ++ F).length := len_le (pair_nodup pr_up) fun n hn => by
    by_cases hF : n ∈ F
    · exact List.mem_append_right _ hF
    · exact List.mem_append_left _ (List.mem_filter.mpr ⟨hn, by simpa using hF⟩)
  rw [List.length_append, pr25] at h1
  omega
theorem r_law_row {K : PySem.W.Frag} {vs : List V} {H : Hp} {Q : VK} {E : XK} (h : sp_law_row K vs H Q E) : t_law_row K { nx := fun _ H' => Q .non H', rt := Q } (start n_law_row vs) H := by
  obtain ⟨nd, a, ds, m, rfl, ha, ok, hm1, hm6, q⟩ := h
  have o : Own (del H a) [(a, ds.map V.int)] H := .enter ha
  refine fg_body (q_setL (xs := zv PR) (el_lst (by show EvA _ _ _ (zv PR); unfold PR; repeat (first | exact ea_nil | refine ea_cons ev_c ?_)) (by decide)) fun pe hpe => ?_)
  replace o := o.new (xs := zv PR) hpe
  refine q_setW (w_op (w_c (w_callW (w_cons (w_v 0 (w_one (w_v 1 ?_)))))))
  refine o.take 1 rfl ok (by omega) fun t ds H2 ht ok o => r_add ?_
  replace o : Own (del H a) [(pe, zv PR), (a, ds.map V.int)] H2 := o
  refine q_setW (w_callW (w_cons (w_v 0 (w_one (w_c ?_)))))
  refine o.take 1 rfl ok (by omega) fun wy ds H3 hw ok o => ?_
  replace o : Own (del H a) [(pe, zv PR), (a, ds.map V.int)] H3 := o
  refine q_setL el_nil fun pf hpf => ?_
  replace o : Own (del H a) [(pf, zv []), (pe, zv PR), (a, ds.map V.int)] _ := o.new hpf
  refine q_forR1 (ea_1 (ev_v 3)) (by omega) (fun i σ' H' => ∃ (F : List Nat) (y6 y7 : Option V) (ds : List Int), σ' = [some (.ref a), some (.int (m : Int)), some (.ref pe), some (.int (1 + t)), some (.int wy), some (.ref pf), y6, y7, none] ∧ DrOk ds ∧ Own (del H a) [(pf, zv F), (pe, zv PR), (a, ds.map V.int)] H' ∧ F.length = i ∧ F.Nodup ∧ ∀ x ∈ F, x ∈ PR) ⟨[], none, none, ds, rfl, ok, o, rfl, by simp, by simp⟩ (fun i σ' H' hi hv => ?_) (fun σ' H' hv => ?_)
  · obtain ⟨F, y6, y7, ds, rfl, ok, o, hF, hnd, hFP⟩ := hv
    have hll := left_len (F := F) (by omega)
    have el := el_lcI (K := K) (σ := [some (.ref a), some (.int (m : Int)), some (.ref pe), some (.int (1 + t)), some (.int wy), some (.ref pf), some (.int (i : Int)), y7, none]) (H := H') (tl := tVar 2) (n := 8) (vs := [8]) (t := tTest (tOp (rIn K true) (tVar 8) (tVar 5))) (te := tVar 8) (ns := zl PR) (fun j => !decide (j.toNat ∈ F)) (fun j => j) (ev_v 2) (o.sqi 1 rfl) (by decide) (fun _ => rfl) (fun j hj D acc hD => by
      obtain ⟨x, hx, rfl⟩ := List.mem_map.mp hj
      exact et_t (ev_nin (x := x) (ev_v 8) (ev_v 5) (sq_new hD (o.sqi 0 rfl)))) (fun j hj _ D acc hD => ev_v 8)
    rw [filt_nat (fun x => !decide (x ∈ F)) _ _ (fun x _ => by simp)] at el
    refine q_setL el fun pl hpl => ?_
    have hfp : ∀ x ∈ PR.filter (fun x => !decide (x ∈ F)), x ∈ PR ∧ x ∉ F := fun x hx => by
      obtain ⟨h1, h2⟩ := List.mem_filter.mp hx
      exact ⟨h1, by simpa using h2⟩
    generalize PR.filter (fun x => !decide (x ∈ F)) = L0 at hpl hll hfp
    replace o := o.new (xs := zv L0) hpl
    -- the two cuts
    have cut : ∀ (L : List Nat) (k : Nat), 0 < k → 0 < L.length → (∀ x ∈ L, x ∈ PR ∧ x ∉ F) → 0 < (L.take k).length ∧ ∀ x ∈ L.take k, x ∈ PR ∧ x ∉ F := fun L k hk hL h => ⟨by rw [List.length_take]; omega, fun x hx => h x (List.mem_of_mem_take hx)⟩
    refine q_whenI (fun σ' H5 => ∃ (L : List Nat) (pl : Addr), σ' = [some (.ref a), some (.int (m : Int)), some (.ref pe), some (.int (1 + t)), some (.int wy), some (.ref pf), some (.int (i : Int)), some (.ref pl), none] ∧ Own (del H a) [(pl, zv L), (pf, zv F), (pe, zv PR), (a, ds.map V.int)] H5 ∧ 0 < L.length ∧ ∀ x ∈ L, x ∈ PR ∧ x ∉ F) (ep_eqi (ev_v 4) ev_c) (fun _ N hN => ?_) (fun _ => ⟨L0, pl, rfl, o, by omega, hfp⟩) fun σ' H5 hv => ?_
    · refine s_setL (el_sl (ev_v 7) eo_no (eo_is (ev_eq (y := .int ((1 : Nat) : Int)) ev_c rfl)) (o.sqi 0 rfl)) fun p2 hp2 => ?_
      rw [cut_toN]
      obtain ⟨c1, c2⟩ := cut L0 1 (by omega) (by omega) hfp
      exact hN _ _ ⟨_, p2, rfl, (o.new (xs := zv (L0.take 1)) hp2).drop2, c1, c2⟩
    clear o
    obtain ⟨L, pl, rfl, o, hL, hLP⟩ := hv
    refine q_whenI (fun σ' H5 => ∃ (L : List Nat) (pl : Addr), σ' = [some (.ref a), some (.int (m : Int)), some (.ref pe), some (.int (1 + t)), some (.int wy), some (.ref pf), some (.int (i : Int)), some (.ref pl), none] ∧ Own (del H a) [(pl, zv L), (pf, zv F), (pe, zv PR), (a, ds.map V.int)] H5 ∧ 0 < L.length ∧ ∀ x ∈ L, x ∈ PR ∧ x ∉ F) (ep_eqi (ev_v 4) ev_c) (fun _ N hN => ?_) (fun _ => ⟨L, pl, rfl, o, hL, hLP⟩) fun σ' H6 hv => ?_
    · refine s_setL (el_sl (ev_v 7) eo_no (eo_is (ev_eq (y := .int ((5 : Nat) : Int)) ev_c rfl)) (o.sqi 0 rfl)) fun p2 hp2 => ?_
      rw [cut_toN]
      obtain ⟨c1, c2⟩ := cut L 5 (by omega) (by omega) hLP
      exact hN _ _ ⟨_, p2, rfl, (o.new (xs := zv (L.take 5)) hp2).drop2, c1, c2⟩
    clear o hL hLP
    obtain ⟨L, pl, rfl, o, hL, hLP⟩ := hv
    refine s_dropW (w_appR (ev_v 5) (o.sqi 1 rfl) (w_one (w_op (w_v 7 (w_op (w_callW (w_cons (w_v 0 (w_one (w_c ?_))))))))))
    refine o.take 3 rfl ok (by omega) fun u ds H7 hu ok o => ?_
    replace o : Own (del H a) [(pl, zv L), (pf, zv F), (pe, zv PR), (a, ds.map V.int)] H7 := o
    refine w_ev (ev_len (ev_v 7) (o.sqi 0 rfl)) (r_mod (by rw [zv_len]; omega) ?_)
    rw [zv_len]
    obtain ⟨j, ej, hj⟩ : ∃ j : Nat, u % (L.length : Int) = (j : Int) ∧ j < L.length := ⟨(u % (L.length : Int)).toNat, by have := Int.emod_nonneg u (b := (L.length : Int)) (by omega); omega, by have := Int.emod_lt_of_pos u (b := (L.length : Int)) (by omega); have := Int.emod_nonneg u (b := (L.length : Int)) (by omega); omega⟩
    rw [ej]
    refine r_ix (o.sqi 0 rfl) (zv_at hj) ⟨pf, zv F, _, rfl, rfl, o.atI 1 rfl, ?_, ?_⟩
    · rw [zv_len]; exact szl (by omega)
    rw [zv_one]
    obtain ⟨h1, h2⟩ := hLP _ (List.getElem_mem hj)
    refine ⟨F ++ [L[j]], _, _, ds, rfl, ok, (o.mut (ys := zv (F ++ [L[j]])) 1 rfl).drop1, by simp [hF], ?_, fun x hx => ?_⟩
    · rw [List.nodup_append]
      refine ⟨hnd, by simp, fun x hx y hy => ?_⟩
      rw [List.mem_singleton.mp hy]
      intro z
      exact h2 (z ▸ hx)
    · rcases List.mem_append.mp hx with hx | hx
      · exact hFP x hx
      · rw [List.mem_singleton.mp hx]; exact h1
  · obtain ⟨F, y6, y7, ds, rfl, ok, o, hF, hnd, hFP⟩ := hv
    refine s_retW (w_cb (w_one (w_v 5 (r_sortN (o.sqi 0 rfl) fun l ps hl hle hps => ?_))))
    have o2 := o.new (xs := zv l) hps
    have hlen : l.length = F.length := hl.length_eq
    have w : Rw l := ⟨fun x hx => hFP x (hl.mem_iff.mp hx), (hle.and (hl.nodup_iff.mpr hnd)).imp fun {x y} z => by have := z.1; have := z.2; omega, by omega⟩
    refine ⟨_, o2.exitN ha 3 0 rfl rfl (o2.ne 0 3 rfl rfl (by decide)), q ps l ds (o2.ne 0 3 rfl rfl (by decide)) ?_ w (fun z => by rw [z] at hlen; simp at hlen; omega) (by omega) ok⟩
    have := o2.offI 0 rfl
    rw [del_ne (o2.ne 0 3 rfl rfl (by decide))] at this
    exact this
theorem Own.rowC {K : PySem.W.Frag} {B H : Hp} {L : List (Addr × List V)} {p : Addr} {ds : List Int} {m : Nat} {Q : VK} {E : XK} (o : Own B L H) (i : Nat) (h : L[i]? = some (p, ds.map V.int)) (ok : DrOk ds) (hm : 1 ≤ m ∧ m ≤ 6)
    (k : ∀ (pr : Addr) (row : List Nat) (ds' : List Int) (H2 : Hp), Rw row → row ≠ [] → row.length ≤ m → DrOk ds' → Own B ((pr, zv row) :: L.set i (p, ds'.map V.int)) H2 → Q (.ref pr) H2) : sp_law_row K ([.ref p, .int (m : Int)] ++ []) H Q E :=
  ⟨o.nod, p, ds, m, rfl, o.atI i h, ok, hm.1, hm.2, fun pr row ds' hne hpr w hr hl ok' => k pr row ds' _ w hr hl ok' ((o.mut i h).new (by rw [upd_ne hne]; exact hpr))⟩
end Px
set_option Elab.async false
set_option linter.all false
set_option maxRecDepth 100000
set_option maxHeartbeats 4000000
namespace Px
open PySem L2 MA
local macro_rules | `(tactic| bv_omega) => `(tactic| first | assumption | omega | exact cm (by omega) | exact cd (by omega) | exact cp (by omega) | exact trivial)
local macro_rules | `(tactic| array_get_dec) => `(tactic| first
  | assumption
  | exact sq_up
  | exact Own.sqi (by assumption) 0 (by rfl)
  | exact Own.sqi (by assumption) 1 (by rfl)
  | exact Own.sqi (by assumption) 2 (by rfl)
  | exact Own.sqi (by assumption) 3 (by rfl)
  | exact Own.sqi (by assumption) 4 (by rfl)
  | exact Own.sq (by assumption) (by assumption)
  | exact sq_new (by assumption) (by assumption))
local macro_rules | `(tactic| clean_wf) => `(tactic| first
  | with_reducible exact ev_c
  | (with_reducible apply ev_v') <;> rfl
  | (with_reducible apply ev_add) <;> clean_wf
  | (with_reducible apply ev_sub) <;> clean_wf
  | (with_reducible apply ev_mul) <;> clean_wf
  | (with_reducible apply ev_mod) <;> clean_wf
  | (with_reducible apply ev_div) <;> clean_wf
  | (with_reducible apply ev_pow) <;> clean_wf
  | (with_reducible apply ev_neg) <;> clean_wf
  | (with_reducible apply ev_lt) <;> clean_wf
  | (with_reducible apply ev_le) <;> clean_wf
  | (with_reducible apply ev_gt) <;> clean_wf
  | (with_reducible apply ev_ge) <;> clean_wf
  | (with_reducible apply ev_eqi) <;> clean_wf
  | (with_reducible apply ev_nei) <;> clean_wf
  | (with_reducible apply ev_len) <;> clean_wf
  | (with_reducible apply ev_ixL) <;> clean_wf
  | (with_reducible apply ev_min) <;> clean_wf
  | (with_reducible apply ev_max) <;> clean_wf
  | (with_reducible apply ev_abs) <;> clean_wf
  | (with_reducible apply ev_intB) <;> clean_wf
  | (with_reducible apply ea_1) <;> clean_wf
  | (with_reducible apply ea_2) <;> clean_wf
  | (with_reducible apply ea_3) <;> clean_wf
  | with_reducible exact ea_nil
  | (with_reducible apply ea_cons) <;> clean_wf
  | with_reducible exact el_nil
  | (with_reducible apply ep_lt) <;> clean_wf
  | (with_reducible apply ep_le) <;> clean_wf
  | (with_reducible apply ep_gt) <;> clean_wf
  | (with_reducible apply ep_ge) <;> clean_wf
  | (with_reducible apply ep_eqi) <;> clean_wf
  | (with_reducible apply ep_nei) <;> clean_wf
  | (with_reducible apply ep_not) <;> clean_wf
  | ((with_reducible apply ep_and) <;> first | (intro _; clean_wf; done) | clean_wf)
  | ((with_reducible apply ep_or) <;> first | (intro _; clean_wf; done) | clean_wf)
  | (with_reducible apply et_t) <;> clean_wf
  | (with_reducible apply eo_is) <;> clean_wf
  | with_reducible exact eo_no
  | array_get_dec
  | bv_omega
  | rfl
  | skip)
local macro_rules | `(tactic| symm_saturate) => `(tactic| first
  | ((with_reducible apply q_set); (focus (clean_wf; done)))
  | ((with_reducible apply s_set); (focus (clean_wf; done)))
  | ((with_reducible apply q_aug (hx := rfl)); (focus (clean_wf; done)))
  | ((with_reducible apply s_aug (hx := rfl)); (focus (clean_wf; done)))
  | ((with_reducible apply q_augC (hx := rfl)); (focus (clean_wf; done)))
  | ((with_reducible apply s_augC (hx := rfl)); (focus (clean_wf; done))))
local macro_rules | `(tactic| subst_eqs) => `(tactic| repeat' (first
  | with_reducible apply w_c
  | ((with_reducible apply w_v'); (focus rfl))
  | with_reducible apply w_op
  | with_reducible apply w_cb
  | with_reducible apply w_cons
  | with_reducible apply w_nil
  | with_reducible apply r_add
  | with_reducible apply r_sub
  | ((with_reducible apply r_mul); (focus (bv_omega; done)))
  | ((with_reducible apply r_div); (focus (bv_omega; done)))
  | ((with_reducible apply r_mod); (focus (bv_omega; done)))
  | ((with_reducible apply r_pow); (focus (bv_omega; done)))
  | with_reducible apply r_lt
  | with_reducible apply r_le
  | with_reducible apply r_gt
  | with_reducible apply r_ge
  | with_reducible apply r_min
  | with_reducible apply r_max
  | with_reducible apply r_intB
  | ((with_reducible apply r_len); (focus (array_get_dec; done)))
  | with_reducible apply w_callW
  | with_reducible apply q_setW
  | with_reducible apply s_setW
  | with_reducible apply s_retW))

/-! ### all made ones, level by level -/
theorem lv_filterC (A : List Nat) (p n : Nat) (b : Int) (hbn : ∀ x ∈ A, ((p : Int) * (x : Int) ≤ b ↔ x * p ≤ n)) : (((zl A).filter fun i => decide ((p : Int) * i ≤ b)).map fun i => (p : Int) * i) = zl (lvUp p n A) := by
  unfold lvUp
  induction A with
  | nil => rfl
  | cons a l ih =>
    have ih := ih fun x hx => hbn x (List.mem_cons_of_mem _ hx)
    simp only [zl, List.map_cons, List.filter_cons] at ih ⊢
    have e : decide ((p : Int) * (a : Int) ≤ b) = decide (a * p ≤ n) := decide_eq_decide.mpr (hbn a List.mem_cons_self)
    rw [e]
    by_cases h : a * p ≤ n
    · simp only [h, decide_true, if_true, List.map_cons, ih]
      rw [Int.natCast_mul, Int.mul_comm]
    · simp only [h, decide_false, Bool.false_eq_true, if_false, ih]
theorem el_upC {K : PySem.W.Frag} {s0 s2 s5 : Option V} {H : Hp} {pa : Addr} {A : List Nat} {p n : Nat} {b : Int} (hA : SqL K H pa (zv A)) (hlen : A.length ≤ 9000000) (hAb : ∀ x ∈ A, x < 2 ^ 70) (hp : p ≤ 97) (hbn : ∀ x ∈ A, ((p : Int) * (x : Int) ≤ b ↔ x * p ≤ n)) :
    EvL (tLc (iList K (tVar 4)) (gName 5) (tTest (tOp oLe (tOp oMul (tVar 3) (tVar 5)) (tVar 1))) (tOp oMul (tVar 3) (tVar 5)) [5]) [s0, some (.int b), s2, some (.int (p : Int)), some (.ref pa), s5] H (zv (lvUp p n A)) := by
  rw [zv, ← lv_filterC A p n b hbn]
  have hbd : ∀ i ∈ zl A, 0 ≤ i ∧ i < 2 ^ 70 := fun i hi => by
    obtain ⟨x, hx, rfl⟩ := List.mem_map.mp hi
    have := hAb x hx
    omega
  exact el_lcI (fun i => decide ((p : Int) * i ≤ b)) (fun i => (p : Int) * i) (ev_v 4) hA (by rw [zl_len]; omega) (fun _ => rfl) (fun i hi D acc hD => et_t (ev_le (ev_mul (ev_v 3) (ev_v 5) (cm (by have := hbd i hi; omega))) (ev_v 1))) fun i hi _ D acc hD => ev_mul (ev_v 3) (ev_v 5) (cm (by have := hbd i hi; omega))
def tMadeBody (K : PySem.W.Frag) : TS := tSeq (tAsg (tCB (cList K) (tCons (tVar 2) tNil)) (gName 4))
  (tWhile (bFg (tTest (tOp (rNeD K) (tVar 4) (tLst tNil)))) (tSeq (tAsg (tLc (iList K (tVar 4)) (gName 5) (tTest (tOp oLe (tOp oMul (tVar 3) (tVar 5)) (tVar 1))) (tOp oMul (tVar 3) (tVar 5)) [5]) (gName 4))
  (tDrop (tBM K "list" rExtend (tVar 2) (tCons (tVar 4) tNil)))))
theorem lp_made {K : PySem.W.Frag} {B H1 : Hp} {L : List (Addr × List V)} {pf ar : Addr} {F0 row : List Nat} {n : Nat} {b : Int} {s0 s3 s4 s5 : Option V} {D : Ends} (o : Own B ((pf, zv F0) :: L) H1) (w : Rw row) (f : Fits row n) (hF0 : IsAll [] n F0) (hbn : b = (n : Int) ∨ (n = 0 ∧ b ≤ 0)) (hs : ∀ F H', Own B ((pf, zv F) :: L) H' → SqL K H' ar (zv row))
    (k : ∀ H' F y3 y4, Own B ((pf, zv F) :: L) H' → IsAll row n F → D.nx [s0, some (.int b), some (.ref pf), y3, y4, s5] H') : Lp (Itl K ar) (gName 3) (tMadeBody K) D [s0, some (.int b), some (.ref pf), s3, s4, s5] H1 := by
  have g := w.good
  have hfit := w.fit f
  have hb := f.lt
  refine lp_list (xs := zv row) (fun i σ' H' => ∃ (F : List Nat) (y3 y4 : Option V), σ' = [s0, some (.int b), some (.ref pf), y3, y4, s5] ∧ Own B ((pf, zv F) :: L) H' ∧ IsAll (row.take i) n F) ⟨F0, s3, s4, rfl, o, hF0⟩ (fun i σ' H' _ hv => ?_) (fun i v σ' H' hx hv => ?_) (fun σ' H' hv => ?_)
  · obtain ⟨F, _, _, _, o, _⟩ := hv
    exact hs F H' o
  · obtain ⟨L0, y3, y4, rfl, o, hL⟩ := hv
    obtain ⟨pr, e, rfl⟩ := zv_some hx
    have gd := take_good g e
    have hp2 := w.ge (List.mem_of_getElem? e)
    have hcap : cnt (pr :: row.take i) n ≤ 9000000 := Nat.le_trans (take_cnt e) hfit
    refine q_setL (el_list (ev_v 2) (o.sqi 0 rfl)) fun pa hpa => ?_
    replace o := o.new (xs := zv L0) hpa
    refine s_while (fun m σ' H' => ∃ (F A : List Nat) (j : Nat) (pa : Addr), σ' = [s0, some (.int b), some (.ref pf), some (.int (pr : Int)), some (.ref pa), s5] ∧ Own B ((pa, zv A) :: (pf, zv F) :: L) H' ∧ Lv (row.take i) L0 pr n F A j ∧ m = 71 - j ∧ j ≤ 70) 71 ⟨L0, L0, 0, pa, rfl, o, .start hL, rfl, by omega⟩ (fun m σ' H' hw => ?_)
    obtain ⟨F, A, j, pa, rfl, o, v, rfl, hj⟩ := hw
    have hlens : F.length ≤ 9000000 ∧ A.length ≤ 9000000 := ⟨Nat.le_trans v.len hcap, Nat.le_trans v.alen hcap⟩
    have no := o.nod
    refine ⟨_, et_nonil (ns := zl A) (o.sqi 0 rfl) (ev_v 4), fun hc => ?_, fun hc => ?_⟩
    · have hA : A ≠ [] := fun z => by subst z; simp at hc
      have hj70 := v.lt gd hL hb hA
      have hAb : ∀ x ∈ A, x ≤ n := fun x hx => (v.made x (v.aj x hx).1).2
      refine q_setL (el_upC (n := n) (o.sqi 0 rfl) hlens.2 (fun x hx => by have := hAb x hx; omega) hp2.2 fun x hx => ?_) fun pn hpn => ?_
      · have hx0 := mk_pos gd.ge (v.made x (v.aj x hx).1).1
        have hxn := hAb x hx
        rw [← Int.natCast_mul, Nat.mul_comm]
        rcases hbn with rfl | ⟨h0, _⟩
        · omega
        · omega
      have o2 := o.new (xs := zv (lvUp pr n A)) hpn
      have v2 := v.step gd hL
      have hl2 : (F ++ lvUp pr n A).length ≤ 9000000 := Nat.le_trans v2.len hcap
      rw [List.length_append] at hl2
      refine s_ext (o2.atI 2 rfl) (o2.atI 0 rfl) ?_ (ev_v 2) (ev_v 4) ⟨71 - (j + 1), by omega, _, _, j + 1, pn, rfl, ?_, v2, rfl, by omega⟩
      · rw [zv_len, zv_len]; exact Nat.le_of_lt (szl (by omega))
      · rw [← zv_app]
        exact (o2.mut (ys := zv (F ++ lvUp pr n A)) 2 rfl).drop2
    · have hA : A = [] := by simpa using hc
      subst hA
      exact ⟨F, _, _, rfl, o.drop1, take_all e (v.fin gd hL)⟩
  · obtain ⟨F, y3, y4, rfl, o, hF⟩ := hv
    rw [zv_len, List.take_length] at hF
    exact k H' F y3 y4 o hF
theorem el_one {σ : L2.St} {H : Hp} {b : Int} [Nod H] (h1 : σ[1]? = some (some (.int b))) : EvL (tFg (tOp rRep (tLst (tCons (tC (.int 1)) tNil)) (tCB cInt (tCons (tOp oGe (tVar 1) (tC (.int 1))) tNil)))) σ H (if decide (1 ≤ b) then [.int 1] else []) :=
  el_fg fun Q q => w_op (w_evL (el_lst (ea_1 ev_c) (by simp)) fun p hp => w_ev (ev_intB (ev_ge (ev_v' h1) ev_c)) (w_rep1 (k := 1) upd_same fun p2 hp2 => q p2 _ (none_upd hp2).1 (ex_upd (none_upd hp2).1 (ex_new hp)) upd_same))
theorem one_all {b : Int} {n : Nat} (hbn : b = (n : Int) ∨ (n = 0 ∧ b ≤ 0)) : ∃ F0, (if decide (1 ≤ b) then [V.int 1] else []) = zv F0 ∧ IsAll [] n F0 := by
  by_cases h : 1 ≤ b
  · exact ⟨[1], by rw [if_pos (decide_eq_true h)]; rfl, all_nil (by omega)⟩
  · have h0 : n = 0 := by omega
    subst h0
    exact ⟨[], by rw [if_neg (by simpa using h)]; rfl, all_zero fun _ h => (List.not_mem_nil h).elim⟩
def sp_law_made (K : PySem.W.Frag) : Sp := fun vs H Q _ => Nod H ∧ ∃ (a : Addr) (row : List Nat) (n : Nat) (b : Int), vs = [.ref a, .int b] ∧ SqL K H a (zv row) ∧ Rw row ∧ Fits row n ∧ (b = (n : Int) ∨ (n = 0 ∧ b ≤ 0)) ∧
  ∀ (p : Addr), H p = none → Q (.ref p) (upd H p (.lst (zv (allL row n))))
/-- slots: row bound found prime times one -/
abbrev n_law_made : List Str := ["row", "bound", "found", "prime", "times", "one"]
def t_law_made (K : PySem.W.Frag) : TS := (sFg (tSeq (tAsg (tFg (tOp rRep (tLst (tCons (tC (.int 1)) tNil)) (tCB cInt (tCons (tOp oGe (tVar 1) (tC (.int 1))) tNil)))) (gName 2))
  (tSeq (tFor (iList K (tVar 0)) (gName 3) (tSeq (tAsg (tCB (cList K) (tCons (tVar 2) tNil)) (gName 4))
  (tWhile (bFg (tTest (tOp (rNeD K) (tVar 4) (tLst tNil)))) (tSeq (tAsg (tLc (iList K (tVar 4)) (gName 5) (tTest (tOp oLe (tOp oMul (tVar 3) (tVar 5)) (tVar 1))) (tOp oMul (tVar 3) (tVar 5)) [5]) (gName 4))
  (tDrop (tBM K "list" rExtend (tVar 2) (tCons (tVar 4) tNil)))))))
  (tRet (tCB (rSortedI K) (tCons (tVar 2) tNil))))))
theorem r_law_made {K : PySem.W.Frag} {vs : List V} {H : Hp} {Q : VK} {E : XK} (h : sp_law_made K vs H Q E) : t_law_made K { nx := fun _ H' => Q .non H', rt := Q } (start n_law_made vs) H := by
  obtain ⟨nd, a, row, n, b, rfl, sa, w, f, hbn, q⟩ := h
  obtain ⟨F0, e0, h0⟩ := one_all hbn
  refine fg_body (q_setL (el_one rfl) fun p hp => ?_)
  rw [e0]
  have o : Own H [(p, zv F0)] (upd H p (.lst (zv F0))) := Own.nil.new hp
  refine q_seq (w_forL (w_v 0 ⟨a, rfl, ⟨_, o.sq sa⟩, lp_made o w f h0 hbn (fun F H' o => o.sq sa) fun H' F y3 y4 o hF => ?_⟩))
  refine s_retW (w_cb (w_one (w_v 2 (r_sortN (o.sqi 0 rfl) fun l ps hl hle hps => ?_))))
  rw [hF.sorted hl hle]
  have o2 := o.new (xs := zv (allL row n)) hps
  exact ⟨_, o2.ret 0 rfl, q ps (o2.offI 0 rfl)⟩
/-- _law_made(row[1:], b) in a def -/
theorem w_madeR {K : PySem.W.Frag} {σ : L2.St} {B H : Hp} {L : List (Addr × List V)} {te : TE} {a : Addr} {p n : Nat} {r : List Nat} {b : Int} {Q : VK} (o : Own B L H) (h0 : σ[0]? = some (some (.ref a))) (ha : SqL K H a (zv (p :: r))) (w : Rw (p :: r)) (f : Fits r n) (hbn : b = (n : Int) ∨ (n = 0 ∧ b ≤ 0)) (hb : ∀ H1, Ev te σ H1 (.int b))
    (q : ∀ p2 H2, Own B ((p2, zv (allL r n)) :: L) H2 → Q (.ref p2) H2) : tCall (sp_law_made K) [] E0 (tCons (tSl (rSlL K) (tVar 0) (tPart (tC (.int 1))) tNoPart) (tCons te tNil)) σ H Q := by
  refine w_callW (w_cons (w_evL (el_sl (ev_v' h0) (eo_is (ev_eq (y := .int ((1 : Nat) : Int)) ev_c rfl)) eo_no ha) fun p1 hp1 => w_one (w_ev (hb _) ?_)))
  rw [cut_fromN]
  have o1 := o.new (xs := zv ((p :: r).drop 1)) hp1
  exact ⟨o1.nod, p1, r, n, b, rfl, o1.sqi 0 rfl, w.tail, f, hbn, fun p2 hp2 => q p2 _ ((o1.new hp2).drop2)⟩
/-! ### next and last -/
def sp_law_next (K : PySem.W.Frag) : Sp := fun vs H Q _ => Nod H ∧ ∃ (a : Addr) (row : List Nat) (n : Nat), vs = [.ref a, .int (n : Int)] ∧ SqL K H a (zv row) ∧ Rw row ∧ row ≠ [] ∧ Fits (row.drop 1) (n * 97) ∧ n < 2 ^ 63 ∧ Q (.int (nxt row n : Int)) H
/-- slots: row number most found rest -/
abbrev n_law_next : List Str := ["row", "number", "most", "found", "rest"]
def t_law_next (K : PySem.W.Frag) : TS := (sFg (tSeq (tAsg (tC (.int 1)) (gName 2))
  (tSeq (tWhile (tTest (tOp oLe (tVar 2) (tVar 1))) (tAsg (tOp oMul (tVar 2) (tOp (rIxL K) (tVar 0) (tC (.int 0)))) (gName 2)))
  (tSeq (tAsg (tVar 2) (gName 3))
  (tSeq (tFor (iList K (tCall (sp_law_made K) [] E0 (tCons (tSl (rSlL K) (tVar 0) (tPart (tC (.int 1))) tNoPart) (tCons (tVar 2) tNil)))) (gName 4) (tSeq (tWhile (tTest (tOp oLe (tVar 4) (tVar 1))) (tAsg (tOp oMul (tVar 4) (tOp (rIxL K) (tVar 0) (tC (.int 0)))) (gName 4)))
  (tAsg (tCB cMin (tCons (tVar 3) (tCons (tVar 4) tNil))) (gName 3))))
  (tRet (tVar 3)))))))
theorem allL_isA (row : List Nat) (b : Nat) : IsAll row b (allL row b) := allL_is row b
theorem r_law_next {K : PySem.W.Frag} {vs : List V} {H : Hp} {Q : VK} {E : XK} (h : sp_law_next K vs H Q E) : t_law_next K { nx := fun _ H' => Q .non H', rt := Q } (start n_law_next vs) H := by
  obtain ⟨nd, a, row, n, rfl, sa, w, hne, f, hn, q⟩ := h
  obtain ⟨p, r, rfl⟩ := List.exists_cons_of_ne_nil hne
  have hp := w.ge (p := p) List.mem_cons_self
  have g := w.good
  have ev0 : ∀ {σ : L2.St} {H' : Hp}, σ[0]? = some (some (.ref a)) → Ex H H' → Ev (tOp (rIxL K) (tVar 0) (tC (.int 0))) σ H' (.int (p : Int)) := fun h e => ev_ixL (ev_v' h) ev_c (ex_sq e sa) zv_0
  refine fg_body (q_set ev_c (q_whileP (fun m σ' H' => ∃ b0 : Nat, σ' = [some (.ref a), some (.int (n : Int)), some (.int (b0 : Int)), none, none] ∧ H' = H ∧ m = 2 ^ 70 - b0 ∧ Mk (p :: r) b0 ∧ (b0 = 1 ∨ b0 ≤ n * 97) ∧ 0 < b0) (2 ^ 70 - 1) ⟨1, rfl, rfl, rfl, .one, .inl rfl, by omega⟩ (fun m σ' H' hw => ?_)))
  obtain ⟨b0, rfl, rfl, rfl, hmk0, hle0, hb0⟩ := hw
  have hbp : (b0 : Int) * (p : Int) = ((b0 * p : Nat) : Int) := by simp
  refine ⟨_, ep_le (i := (b0 : Int)) (j := (n : Int)) (ev_v 2) (ev_v 1), fun hc => ?_, fun hc => ?_⟩
  · have h2 : b0 * 2 ≤ b0 * p := Nat.mul_le_mul_left b0 hp.1
    have h3 : b0 * p ≤ n * 97 := Nat.mul_le_mul (by omega) hp.2
    refine s_set (ev_mul (ev_v 2) (ev0 rfl ex_refl) (cm (by omega))) ⟨2 ^ 70 - b0 * p, by omega, b0 * p, by rw [hbp]; rfl, rfl, rfl, by rw [Nat.mul_comm]; exact .mul List.mem_cons_self hmk0, .inr h3, by omega⟩
  · have hgt0 : n < b0 := by omega
    have fb : Fits r b0 := by
      rcases hle0 with rfl | hle0
      · exact .inr (.inr (by omega))
      · exact f.mono hle0
    have o : Own H' [] H' := Own.nil
    refine q_set (ev_v 2) (q_seq (w_forL (w_madeR o rfl sa w fb (.inl rfl) (fun H1 => ev_v 2) fun p1 H2 o => ⟨p1, rfl, ⟨_, o.sqi 0 rfl⟩, ?_⟩)))
    have hl := allL_isA r b0
    generalize allL r b0 = l at o hl
    refine lp_list (xs := zv l) (fun i σ' H3 => ∃ (best : Nat) (y4 : Option V), σ' = [some (.ref a), some (.int (n : Int)), some (.int (b0 : Int)), some (.int (best : Int)), y4] ∧ H3 = H2 ∧ Mk (p :: r) best ∧ n < best ∧ best ≤ b0 ∧ ∀ x ∈ l.take i, ∀ k, n < x * p ^ k → best ≤ x * p ^ k) ⟨b0, none, rfl, rfl, hmk0, hgt0, by omega, by simp⟩ (fun i σ' H3 _ hv => ?_) (fun i v σ' H3 hx hv => ?_) (fun σ' H3 hv => ?_)
    · obtain ⟨_, _, _, rfl, _⟩ := hv
      exact o.sqi 0 rfl
    · obtain ⟨best, y4, rfl, rfl, hm, hg, hle, hall⟩ := hv
      obtain ⟨x, e, rfl⟩ := zv_some hx
      have hxm := (hl.2 x).mp (List.mem_of_getElem? e)
      have hx0 := mk_pos w.tail.good.ge hxm.1
      have etake : l.take (i + 1) = l.take i ++ [x] := by rw [List.take_add_one, e]; rfl
      refine q_whileP (fun m σ' H4 => ∃ (z : Nat), σ' = [some (.ref a), some (.int (n : Int)), some (.int (b0 : Int)), some (.int (best : Int)), some (.int (z : Int))] ∧ H4 = H3 ∧ m = 2 ^ 80 - z ∧ (∃ j, z = x * p ^ j) ∧ (z = x ∨ z ≤ n * 97) ∧ ∀ k, n < x * p ^ k → z ≤ x * p ^ k) (2 ^ 80 - x) ⟨x, rfl, rfl, rfl, ⟨0, by simp⟩, .inl rfl, fun k _ => pow_le_self hp.1⟩ (fun m σ' H4 hw => ?_)
      obtain ⟨z, rfl, rfl, rfl, ⟨j, hj⟩, hzb, hzl⟩ := hw
      have hz0 : 0 < z := by rw [hj]; exact Nat.mul_pos hx0 (Nat.pow_pos (by omega))
      have hzp : (z : Int) * (p : Int) = ((z * p : Nat) : Int) := by simp
      refine ⟨_, ep_le (i := (z : Int)) (j := (n : Int)) (ev_v 4) (ev_v 1), fun hc => ?_, fun hc => ?_⟩
      · have h2 : z * 2 ≤ z * p := Nat.mul_le_mul_left z hp.1
        have h3 : z * p ≤ n * 97 := Nat.mul_le_mul (by omega) hp.2
        refine s_set (ev_mul (ev_v 4) (ev0 rfl o.ex) (cm (by omega))) ⟨2 ^ 80 - z * p, by omega, z * p, by rw [hzp]; rfl, rfl, rfl, ⟨j + 1, by rw [hj, Nat.pow_succ, Nat.mul_assoc]⟩, .inr h3, fun k hk => ?_⟩
        have hjk : j < k := by
          rcases Nat.lt_or_ge j k with y | y
          · exact y
          · have : x * p ^ k ≤ x * p ^ j := Nat.mul_le_mul_left x (Nat.pow_le_pow_right (by omega) y)
            omega
        rw [hj, Nat.mul_assoc, ← Nat.pow_succ]
        exact Nat.mul_le_mul_left x (Nat.pow_le_pow_right (by omega) hjk)
      · have hzm : Mk (p :: r) z := by rw [hj]; exact mk_cons.mpr ⟨j, x, rfl, hxm.1⟩
        refine s_set (ev_min (i := (best : Int)) (j := (z : Int)) (ev_v 3) (ev_v 4)) ?_
        by_cases hzb : z < best
        · rw [if_pos (by omega)]
          refine ⟨z, _, rfl, rfl, hzm, by omega, by omega, fun y hy k hk => ?_⟩
          rw [etake, List.mem_append] at hy
          rcases hy with hy | hy
          · have := hall y hy k hk; omega
          · rw [List.mem_singleton.mp hy] at hk ⊢; exact hzl k hk
        · rw [if_neg (by omega)]
          refine ⟨best, _, rfl, rfl, hm, hg, hle, fun y hy k hk => ?_⟩
          rw [etake, List.mem_append] at hy
          rcases hy with hy | hy
          · exact hall y hy k hk
          · rw [List.mem_singleton.mp hy] at hk ⊢; have := hzl k hk; omega
    · obtain ⟨best, y4, rfl, rfl, hm, hg, hle, hall⟩ := hv
      rw [zv_len, List.take_length] at hall
      rw [nxt_eq (next_of g hl hmk0 hgt0 hm hg hle hall)] at q
      exact s_ret (ev_v 3) ⟨_, fg_same o.ex, q⟩
def sp_law_last (K : PySem.W.Frag) : Sp := fun vs H Q _ => Nod H ∧ ∃ (a : Addr) (row : List Nat) (n : Nat), vs = [.ref a, .int (n : Int)] ∧ SqL K H a (zv row) ∧ Rw row ∧ row ≠ [] ∧ Fits (row.drop 1) (n - 1) ∧ Q (lastV row n) H
/-- slots: row number found rest -/
abbrev n_law_last : List Str := ["row", "number", "found", "rest"]
def t_law_last (K : PySem.W.Frag) : TS := (sFg (tSeq (tAsg (tC .non) (gName 2))
  (tSeq (tFor (iList K (tCall (sp_law_made K) [] E0 (tCons (tSl (rSlL K) (tVar 0) (tPart (tC (.int 1))) tNoPart) (tCons (tOp oSub (tVar 1) (tC (.int 1))) tNil)))) (gName 3) (tSeq (tWhile (tTest (tOp oLt (tOp oMul (tVar 3) (tOp (rIxL K) (tVar 0) (tC (.int 0)))) (tVar 1))) (tAsg (tOp oMul (tVar 3) (tOp (rIxL K) (tVar 0) (tC (.int 0)))) (gName 3)))
  (tAsg (tIf (tTest (tOp oIsN (tVar 2) (tC .non))) (tVar 3) (tCB cMax (tCons (tVar 2) (tCons (tVar 3) tNil)))) (gName 2))))
  (tRet (tVar 2)))))
theorem r_law_last {K : PySem.W.Frag} {vs : List V} {H : Hp} {Q : VK} {E : XK} (h : sp_law_last K vs H Q E) : t_law_last K { nx := fun _ H' => Q .non H', rt := Q } (start n_law_last vs) H := by
  obtain ⟨nd, a, row, n, rfl, sa, w, hne, f, q⟩ := h
  obtain ⟨p, r, rfl⟩ := List.exists_cons_of_ne_nil hne
  have hp := w.ge (p := p) List.mem_cons_self
  have g := w.good
  have hb : n - 1 < 2 ^ 70 := f.lt
  have ev0 : ∀ {σ : L2.St} {H' : Hp}, σ[0]? = some (some (.ref a)) → Ex H H' → Ev (tOp (rIxL K) (tVar 0) (tC (.int 0))) σ H' (.int (p : Int)) := fun h e => ev_ixL (ev_v' h) ev_c (ex_sq e sa) zv_0
  have o : Own H [] H := Own.nil
  refine fg_body (q_set ev_c (q_seq (w_forL (w_madeR (n := n - 1) (b := (n : Int) - 1) o rfl sa w f (by omega) (fun H1 => ev_sub (ev_v 1) ev_c) fun p1 H2 o => ⟨p1, rfl, ⟨_, o.sqi 0 rfl⟩, ?_⟩))))
  have hl := allL_isA r (n - 1)
  generalize hle : allL r (n - 1) = l at o hl
  refine lp_list (xs := zv l) (fun i σ' H3 => ∃ (y2 : V) (y3 : Option V), σ' = [some (.ref a), some (.int (n : Int)), some y2, y3] ∧ H3 = H2 ∧ ((i = 0 ∧ y2 = .non) ∨ ∃ best : Nat, y2 = .int (best : Int) ∧ Mk (p :: r) best ∧ best < n ∧ ∀ x ∈ l.take i, ∀ k, x * p ^ k ≤ n - 1 → x * p ^ k ≤ best)) ⟨.non, none, rfl, rfl, .inl ⟨rfl, rfl⟩⟩ (fun i σ' H3 _ hv => ?_) (fun i v σ' H3 hx hv => ?_) (fun σ' H3 hv => ?_)
  · obtain ⟨_, _, _, rfl, _⟩ := hv
    exact o.sqi 0 rfl
  · obtain ⟨y2, y3, rfl, rfl, hv⟩ := hv
    obtain ⟨x, e, rfl⟩ := zv_some hx
    have hxm := (hl.2 x).mp (List.mem_of_getElem? e)
    have hx0 := mk_pos w.tail.good.ge hxm.1
    have etake : l.take (i + 1) = l.take i ++ [x] := by rw [List.take_add_one, e]; rfl
    refine q_whileP (fun m σ' H4 => ∃ (z : Nat), σ' = [some (.ref a), some (.int (n : Int)), some y2, some (.int (z : Int))] ∧ H4 = H3 ∧ m = n - z ∧ (∃ j, z = x * p ^ j) ∧ z ≤ n - 1) (n - x) ⟨x, rfl, rfl, rfl, ⟨0, by simp⟩, hxm.2⟩ (fun m σ' H4 hw => ?_)
    obtain ⟨z, rfl, rfl, rfl, ⟨j, hj⟩, hzn⟩ := hw
    have hz0 : 0 < z := by rw [hj]; exact Nat.mul_pos hx0 (Nat.pow_pos (by omega))
    have hzp : (z : Int) * (p : Int) = ((z * p : Nat) : Int) := by simp
    have h2 : z * 2 ≤ z * p := Nat.mul_le_mul_left z hp.1
    refine ⟨_, ep_lt (ev_mul (i := (z : Int)) (j := (p : Int)) (ev_v 3) (ev0 rfl o.ex) (cm (by omega))) (ev_v 1), fun hc => ?_, fun hc => ?_⟩
    · rw [hzp] at hc
      exact s_set (ev_mul (ev_v 3) (ev0 rfl o.ex) (cm (by omega))) ⟨n - z * p, by omega, z * p, by rw [hzp]; rfl, rfl, rfl, ⟨j + 1, by rw [hj, Nat.pow_succ, Nat.mul_assoc]⟩, by omega⟩
    · rw [hzp] at hc
      have gz : Gn p (n - 1) x z := ⟨⟨j, hj⟩, by omega, fun _ => hzn⟩
      have hzm : Mk (p :: r) z := by rw [hj]; exact mk_cons.mpr ⟨j, x, rfl, hxm.1⟩
      rcases hv with ⟨rfl, rfl⟩ | ⟨best, rfl, hm, hg, hall⟩
      · refine s_set (v := .int (z : Int)) (ev_if (b := true) (et_eq (et_t (ev_isN (ev_v 2))) (by simp)) (fun _ => ev_v 3) fun z => nomatch z) ⟨_, _, rfl, rfl, .inr ⟨z, rfl, hzm, by omega, fun y hy k hk => ?_⟩⟩
        rw [etake, List.take_zero, List.nil_append] at hy
        rw [List.mem_singleton.mp hy] at hk ⊢
        exact gz.most hp.1 hx0 hk
      · refine s_set (v := .int (if (z : Int) > (best : Int) then (z : Int) else (best : Int))) (ev_if (b := false) (et_eq (et_t (ev_isN (x := .int (best : Int)) (ev_v 2))) (by simp)) (fun z => nomatch z) fun _ => ev_max (ev_v 2) (ev_v 3)) ?_
        have key : ∀ c : Nat, best ≤ c → z ≤ c → ∀ y ∈ l.take (i + 1), ∀ k, y * p ^ k ≤ n - 1 → y * p ^ k ≤ c := fun c h1 h2 y hy k hk => by
          rw [etake, List.mem_append] at hy
          rcases hy with hy | hy
          · have := hall y hy k hk; omega
          · rw [List.mem_singleton.mp hy] at hk ⊢; have := gz.most hp.1 hx0 hk; omega
        by_cases hzb : best < z
        · rw [if_pos (by omega)]
          exact ⟨_, _, rfl, rfl, .inr ⟨z, rfl, hzm, by omega, key z (by omega) (by omega)⟩⟩
        · rw [if_neg (by omega)]
          exact ⟨_, _, rfl, rfl, .inr ⟨best, rfl, hm, hg, key best (by omega) (by omega)⟩⟩
  · obtain ⟨y2, y3, rfl, rfl, hv⟩ := hv
    refine s_ret (ev_v 2) ⟨_, fg_same o.ex, ?_⟩
    rw [zv_len] at hv
    have : y2 = lastV (p :: r) n := by
      unfold lastV
      rcases hv with ⟨h0, rfl⟩ | ⟨best, rfl, hm, hg, hall⟩
      · rw [if_pos]
        have e0 : l = [] := List.length_eq_zero_iff.mp h0
        rcases Nat.lt_or_ge n 2 with z | z
        · exact z
        · have : 1 ∈ l := (hl.2 1).mpr ⟨.one, by omega⟩
          rw [e0] at this; cases this
      · rw [List.take_length] at hall
        have h1 := mk_pos g.ge hm
        rw [if_neg (by omega), lst_eq (last_of g hl hm hg hall)]
    rw [this]
    exact q
end Px
set_option Elab.async false
set_option linter.all false
set_option maxRecDepth 100000
set_option maxHeartbeats 4000000
namespace Px
open PySem L2 MA
/-! ### a wider base -/
open Classical in
noncomputable def keepS (B H' : Hp) (S : List Addr) : Hp := fun a => if a ∈ S then H' a else B a
section
variable {K : PySem.W.Frag} {B B' H H' : Hp} {L : List (Addr × List V)} {S : List Addr}
theorem keepS_in {b : Addr} (h : b ∈ S) : keepS B H' S b = H' b := if_pos h
theorem keepS_off {b : Addr} (h : b ∉ S) : keepS B H' S b = B b := if_neg h
theorem keepS_ex (hS : ∀ b ∈ S, B b = none) : Ex B (keepS B H' S) := fun b o h => by rw [keepS_off (fun z => by rw [hS b z] at h; cases h)]; exact h
theorem keepS_sub (e : Ex B H') : Ex (keepS B H' S) H' := fun b o h => by
  by_cases z : b ∈ S
  · rw [keepS_in z] at h; exact h
  · rw [keepS_off z] at h; exact e b o h
theorem Own.keepB (o : Own B L H) (e : Ex H H') (n : Nod H') (S : List Addr) (hS : ∀ b ∈ S, H b = none) : Own (keepS B H' S) L H' where
  nod := n
  ex := keepS_sub (ex_trans o.ex e)
  off := fun q hq => by
    rw [keepS_off (fun z => by have := o.has q hq; rw [hS _ z] at this; cases this)]
    exact o.off q hq
  dis := o.dis
  has := fun q hq => e _ _ (o.has q hq)
theorem Own.weak (o : Own B' L H) (e : Ex B B') : Own B L H where
  nod := o.nod
  ex := ex_trans e o.ex
  off := fun q hq => ex_none e (o.off q hq)
  dis := o.dis
  has := o.has
theorem fg_keepS [n : Nod H] (e : Ex H H') (hS : ∀ b ∈ S, H b = none ∧ ∃ o, fresh o ∧ H' b = some o) : Fg H H' (keepS H H' S) := by
  refine fg_gen (fun a => a ∈ S) (fun a o h z => ⟨e a o h, by rw [keepS_off z]; exact h⟩) (fun a z => ?_) (fun a h z => by rw [keepS_off z]; exact h)
  obtain ⟨h0, o, f, h1⟩ := hS a z
  exact ⟨o, f, h1, by rw [keepS_in z]; exact h1, fun u hu => by rw [h0] at hu; cases hu⟩
theorem keepS_nod [n : Nod H] (hS : ∀ b ∈ S, ∃ o, fresh o ∧ H' b = some o) : Nod (keepS H H' S) := ⟨fun a o h => by
  by_cases z : a ∈ S
  · rw [keepS_in z] at h
    obtain ⟨u, f, e⟩ := hS a z
    rw [e] at h; cases h
    exact fresh_flat f
  · rw [keepS_off z] at h; exact n.nod a o h⟩
end
/-! ### a list of pairs of ints -/
abbrev pvals (q : Int × Int) : List V := [.int q.1, .int q.2]
structure Prs (H : Hp) (p : Addr) (as : List Addr) (qs : List (Int × Int)) : Prop where
  lst : H p = some (.lst (as.map V.ref))
  len : as.length = qs.length
  tup : ∀ (i : Nat) (b : Addr) (q : Int × Int), as[i]? = some b → qs[i]? = some q → H b = some (.tup (pvals q))
theorem Prs.ex {H H' : Hp} {p : Addr} {as : List Addr} {qs : List (Int × Int)} (c : Prs H p as qs) (e : Ex H H') : Prs H' p as qs := ⟨e _ _ c.lst, c.len, fun i b x h1 h2 => e _ _ (c.tup i b x h1 h2)⟩
theorem Prs.keep {B H' : Hp} {p : Addr} {as S : List Addr} {qs : List (Int × Int)} (c : Prs H' p as qs) (h1 : p ∈ S) (h2 : ∀ b ∈ as, b ∈ S) : Prs (keepS B H' S) p as qs := ⟨by rw [keepS_in h1]; exact c.lst, c.len, fun i b x e1 e2 => by rw [keepS_in (h2 b (List.mem_of_getElem? e1))]; exact c.tup i b x e1 e2⟩
theorem Prs.all {H : Hp} {p : Addr} {as : List Addr} {qs : List (Int × Int)} (c : Prs H p as qs) : ∀ b ∈ p :: as, ∃ o, fresh o ∧ H b = some o := fun b hb => by
  rcases List.mem_cons.mp hb with rfl | hb
  · exact ⟨.lst (as.map V.ref), trivial, c.lst⟩
  · obtain ⟨i, hi⟩ := List.mem_iff_getElem?.mp hb
    have hlt : i < qs.length := by rw [← c.len]; exact (List.getElem?_eq_some_iff.mp hi).1
    exact ⟨.tup (pvals qs[i]), trivial, c.tup i b _ hi (List.getElem?_eq_getElem hlt)⟩
theorem Prs.get {H : Hp} {p : Addr} {as : List Addr} {qs : List (Int × Int)} (c : Prs H p as qs) {i : Nat} {v : V} (h : (as.map V.ref)[i]? = some v) : ∃ (b : Addr) (q : Int × Int), as[i]? = some b ∧ v = .ref b ∧ qs[i]? = some q ∧ H b = some (.tup (pvals q)) := by
  rw [List.getElem?_map] at h
  cases e : as[i]? with
  | none => rw [e] at h; cases h
  | some b =>
    rw [e] at h
    cases h
    have hlt : i < qs.length := by rw [← c.len]; exact (List.getElem?_eq_some_iff.mp e).1
    exact ⟨b, qs[i], rfl, rfl, List.getElem?_eq_getElem hlt, c.tup i b _ e (List.getElem?_eq_getElem hlt)⟩
abbrev pd (q : Int × Int) : PyData := .tuple [.int q.1, .int q.2]
theorem lay_pairs : ∀ qs : List (Int × Int), PyData.canLayAll0 (qs.map pd) = true
  | [] => by simp [PyData.canLayAll0]
  | q :: r => by simp [PyData.canLayAll0, PyData.canLay0, lay_pairs r]
theorem dep_pairs : ∀ qs : List (Int × Int), PyData.depthAll (qs.map pd) ≤ 1
  | [] => by simp [PyData.depthAll]
  | q :: r => by
    have := dep_pairs r
    simp [PyData.depthAll, PyData.depth, this]
theorem shaped_pairs (qs : List (Int × Int)) : SeqAt.shaped (.list (qs.map pd)) = true := by
  unfold SeqAt.shaped
  have := dep_pairs qs
  rw [PyData.canLay0, lay_pairs, PyData.depth]
  simp only [Bool.true_and, decide_eq_true_eq]
  omega
theorem shaped_pair (q : Int × Int) : SeqAt.shaped (pd q) = true := by
  unfold SeqAt.shaped
  simp [PyData.canLay0, PyData.canLayAll0, PyData.depth, PyData.depthAll]
theorem eqv_pair (q q' : Int × Int) : PyData.eqv (pd q) (pd q') = decide (q = q') := by
  obtain ⟨a, b⟩ := q
  obtain ⟨c, d⟩ := q'
  simp only [PyData.eqv, PyData.eqvAll]
  by_cases h : a = c
  · subst h
    by_cases h2 : b = d
    · subst h2; simp
    · simp [h2]
  · simp [h]
theorem eqv_pairs : ∀ qs qs' : List (Int × Int), PyData.eqvAll (qs.map pd) (qs'.map pd) = decide (qs = qs')
  | [], [] => by simp [PyData.eqvAll]
  | [], _ :: _ => by simp [PyData.eqvAll]
  | _ :: _, [] => by simp [PyData.eqvAll]
  | q :: r, q' :: r' => by
    simp only [List.map_cons, PyData.eqvAll, eqv_pair, eqv_pairs r r']
    by_cases h : q = q'
    · subst h
      by_cases h2 : r = r'
      · subst h2; simp
      · simp [h2]
    · simp [h]
section
variable {K : PySem.W.Frag} {σ : L2.St} {H : Hp}
theorem dp_pair {b : Addr} {q : Int × Int} (h : H b = some (.tup (pvals q))) : Dp K H (.ref b) (pd q) := .tup (st_at h) (.cons (.int _) (.cons (.int _) .nil))
theorem dp_pairs : ∀ (as : List Addr) (qs : List (Int × Int)), as.length = qs.length → (∀ (i : Nat) (b : Addr) (q : Int × Int), as[i]? = some b → qs[i]? = some q → H b = some (.tup (pvals q))) → DpAll K H (as.map V.ref) (qs.map pd)
  | [], [], _, _ => .nil
  | [], _ :: _, h, _ => by cases h
  | _ :: _, [], h, _ => by cases h
  | b :: as, q :: qs, h, hs => .cons (dp_pair (hs 0 b q rfl rfl)) (dp_pairs as qs (by simpa using h) fun i b' q' h1 h2 => hs (i + 1) b' q' (by simpa using h1) (by simpa using h2))
theorem Prs.dp {p : Addr} {as : List Addr} {qs : List (Int × Int)} (c : Prs H p as qs) : Dp K H (.ref p) (.list (qs.map pd)) := .lst (sq_at c.lst) (dp_pairs as qs c.len c.tup)
theorem rv_eqP {a b : Addr} {as bs : List Addr} {qs qs' : List (Int × Int)} (ha : Prs H a as qs) (hb : Prs H b bs qs') : RV (rEqD K) (.ref a) (.ref b) H (.bl (decide (qs = qs'))) := fun Q q =>
  ⟨_, _, ha.dp, hb.dp, shaped_pairs qs, shaped_pairs qs', by rw [PyData.eqv, eqv_pairs]; exact q⟩
theorem rv_neP {a b : Addr} {as bs : List Addr} {qs qs' : List (Int × Int)} (ha : Prs H a as qs) (hb : Prs H b bs qs') : RV (rNeD K) (.ref a) (.ref b) H (.bl (!decide (qs = qs'))) := fun Q q =>
  ⟨_, _, ha.dp, hb.dp, shaped_pairs qs, shaped_pairs qs', by rw [PyData.eqv, eqv_pairs]; exact q⟩
theorem rv_neT {a b : Addr} {q q' : Int × Int} (ha : H a = some (.tup (pvals q))) (hb : H b = some (.tup (pvals q'))) : RV (rNeD K) (.ref a) (.ref b) H (.bl (!decide (q = q'))) := fun Q z =>
  ⟨_, _, dp_pair ha, dp_pair hb, shaped_pair q, shaped_pair q', by rw [eqv_pair]; exact z⟩
theorem Prs.nil {p : Addr} (h : H p = some (.lst [])) : Prs H p [] [] := ⟨h, rfl, fun i b q h1 _ => by simp at h1⟩
/-- a comprehension over a list, any target -/
theorem w_lcG {tl te : TE} {t : TT} {g : TG} {Q : VK} {a : Addr} {xs : List V} {vs : List Nat} (h : Ev tl σ H (.ref a)) (hx : SqL K H a xs) (Pv : Addr → Nat → Hp → Prop) (h0 : ∀ D, H D = none → Pv D 0 (upd H D (.lst []))) (hl : ∀ D i H', H D = none → Pv D i H' → SqL K H' a xs)
    (hs : ∀ D (i : Nat) x H', H D = none → xs[i]? = some x → Pv D i H' → g x (wipe σ vs) H' fun σ2 H2 => wipe σ2 vs = wipe σ vs ∧ t σ2 H2 fun b H3 => if b = true then te σ2 H3 fun y H4 => ∃ acc, H4 D = some (.lst acc) ∧ acc.length < sizeLine ∧ Pv D (i + 1) (upd H4 D (.lst (acc ++ [y]))) else Pv D (i + 1) H3)
    (hd : ∀ D H', H D = none → Pv D xs.length H' → Q (.ref D) H') : tLc (iList K tl) g t te vs σ H Q := h _ ⟨a, rfl, ⟨xs, hx⟩, fun D hD =>
  lc_list (xs := xs) (Pv D) (h0 D hD) (fun i H' _ hv => hl D i H' hD hv) (fun i x H' hi hv => hs D i x H' hD hi hv) (fun H' hv => hd D H' hD hv)⟩
theorem lcat_list {te : TE} {t : TT} {g : TG} {Q : VK} {a : Addr} {xs : List V} {vs : List Nat} {H1 : Hp} (Pv : Addr → Nat → Hp → Prop) (h0 : ∀ D, H1 D = none → Pv D 0 (upd H1 D (.lst []))) (hl : ∀ D i H', H1 D = none → Pv D i H' → SqL K H' a xs)
    (hs : ∀ D (i : Nat) x H', H1 D = none → xs[i]? = some x → Pv D i H' → g x (wipe σ vs) H' fun σ2 H2 => wipe σ2 vs = wipe σ vs ∧ t σ2 H2 fun b H3 => if b = true then te σ2 H3 fun y H4 => ∃ acc, H4 D = some (.lst acc) ∧ acc.length < sizeLine ∧ Pv D (i + 1) (upd H4 D (.lst (acc ++ [y]))) else Pv D (i + 1) H3)
    (hd : ∀ D H', H1 D = none → Pv D xs.length H' → Q (.ref D) H') : LcAt (Itl K a) g t te vs σ Q H1 := fun D hD =>
  lc_list (xs := xs) (Pv D) (h0 D hD) (fun i H' _ hv => hl D i H' hD hv) (fun i x H' hi hv => hs D i x H' hD hi hv) (fun H' hv => hd D H' hD hv)
/-- [part for part in t if ..], t a tuple -/
theorem w_lcT {tl te : TE} {t : TT} {Q : VK} {a : Addr} {xs : List V} {vs : List Nat} {n : Nat} (h : Ev tl σ H (.ref a)) (hx : SqT K H a xs) (Pv : Addr → Nat → Hp → Prop) (h0 : ∀ D, H D = none → Pv D 0 (upd H D (.lst []))) (hl : ∀ D i H', H D = none → Pv D i H' → SqT K H' a xs) (hw : ∀ x, wipe ((wipe σ vs).set n (some x)) vs = wipe σ vs)
    (hs : ∀ D (i : Nat) x H', H D = none → xs[i]? = some x → Pv D i H' → t ((wipe σ vs).set n (some x)) H' fun b H3 => if b = true then te ((wipe σ vs).set n (some x)) H3 fun y H4 => ∃ acc, H4 D = some (.lst acc) ∧ acc.length < sizeLine ∧ Pv D (i + 1) (upd H4 D (.lst (acc ++ [y]))) else Pv D (i + 1) H3)
    (hd : ∀ D H', H D = none → Pv D xs.length H' → Q (.ref D) H') : tLc (iTup K tl) (gName n) t te vs σ H Q := h _ ⟨a, rfl, ⟨xs, hx⟩, fun D hD =>
  lc_tup (xs := xs) (Pv D) (h0 D hD) (fun i H' _ hv => hl D i H' hD hv) (fun i x H' hi hv => ⟨hw x, hs D i x H' hD hi hv⟩) (fun H' hv => hd D H' hD hv)⟩
theorem w_tupW {t : TA} {Q : VK} (h : t σ H fun xs H1 => xs.length ≤ sizeLine ∧ ∀ p, H1 p = none → Q (.ref p) (upd H1 p (.tup xs))) : tTup t σ H Q := h
/-- a, b = t: the target of a for, of a comprehension, over pairs -/
theorem g_pair {n1 n2 : Nat} {b : Addr} {q : Int × Int} {Q : L2.St → Hp → Prop} (h : H b = some (.tup (pvals q))) (k : Q ((σ.set n1 (some (.int q.1))).set n2 (some (.int q.2))) H) : gTup K 2 (gCons (gName n1) (gCons (gName n2) gNil)) (.ref b) σ H Q :=
  ⟨b, _, rfl, st_at h, rfl, _, _, rfl, _, _, rfl, rfl, k⟩
end
theorem Own.tupB {B H : Hp} {L : List (Addr × List V)} {t : Addr} {xs : List V} (o : Own B L H) (ht : H t = none) : Own (upd B t (.tup xs)) L (upd H t (.tup xs)) where
  nod := have := o.nod; inferInstance
  ex := fun b u hb => by
    by_cases e : b = t
    · subst e; rw [upd_same] at hb ⊢; exact hb
    · rw [upd_ne e] at hb ⊢; exact o.ex b u hb
  off := fun q hq => by rw [upd_ne (ne_of_none (o.has q hq) ht)]; exact o.off q hq
  dis := o.dis
  has := fun q hq => by rw [upd_ne (ne_of_none (o.has q hq) ht)]; exact o.has q hq
end Px
set_option linter.all false
set_option maxHeartbeats 1000000
namespace MA
/-! ### papers -/
theorem pwl_spec {p b : Nat} (hp : 2 ≤ p) : ∀ x, 0 < x → b < x * p ^ (pwl p b x).length ∧ ∀ k, k < (pwl p b x).length → x * p ^ k ≤ b := by
  intro x
  induction x using pwl.induct p b with
  | case1 x h ih =>
    intro hx
    rw [pwl, dif_pos h, List.length_cons]
    obtain ⟨h1, h2⟩ := ih (Nat.mul_pos hx (by omega))
    refine ⟨by rw [Nat.pow_succ, Nat.mul_comm (p ^ _) p, ← Nat.mul_assoc]; exact h1, fun k hk => ?_⟩
    cases k with
    | zero => rw [Nat.pow_zero, Nat.mul_one]; exact h.2.2
    | succ k =>
      have := h2 k (by omega)
      rw [Nat.pow_succ, Nat.mul_comm (p ^ k) p, ← Nat.mul_assoc]; exact this
  | case2 x h =>
    intro hx
    rw [pwl, dif_neg h]
    refine ⟨?_, fun k hk => absurd hk (Nat.not_lt_zero _)⟩
    rw [List.length_nil, Nat.pow_zero, Nat.mul_one]
    omega
def tn (p x low : Nat) : Nat := (pwl p (low - 1) x).length
theorem tn_ge {p x low : Nat} (hp : 2 ≤ p) (hl : 0 < low) (hx : 0 < x) : low ≤ x * p ^ tn p x low := by have := (pwl_spec (b := low - 1) hp x hx).1; unfold tn; omega
theorem tn_lt {p x low k : Nat} (hp : 2 ≤ p) (hl : 0 < low) (hx : 0 < x) (h : k < tn p x low) : x * p ^ k < low := by have := (pwl_spec (b := low - 1) hp x hx).2 k h; omega
theorem tn_least {p x low k : Nat} (hp : 2 ≤ p) (hl : 0 < low) (hx : 0 < x) (h : low ≤ x * p ^ k) : tn p x low ≤ k := by
  rcases Nat.lt_or_ge k (tn p x low) with z | z
  · have := tn_lt hp hl hx z; omega
  · exact z
theorem tn_bound {p x low : Nat} (hp : 2 ≤ p) (hl : 0 < low) (hx : 0 < x) : x * p ^ tn p x low ≤ x + low * p := by
  cases e : tn p x low with
  | zero => rw [Nat.pow_zero, Nat.mul_one]; omega
  | succ k =>
    have := tn_lt hp hl hx (show k < tn p x low by omega)
    rw [Nat.pow_succ, ← Nat.mul_assoc]
    have := Nat.mul_le_mul_right p (Nat.le_of_lt this)
    omega
theorem tn_small {p x low : Nat} (hp : 2 ≤ p) (hl : 0 < low) (hx : 0 < x) : tn p x low ≤ low := tn_least hp hl hx (Nat.le_trans (Nat.le_of_lt (lt_pow hp)) (Nat.le_mul_of_pos_left _ hx))
noncomputable def ppr (p : Nat) (r : List Nat) (low high : Nat) : List (Int × Int) := if high < low then [] else (allL r high).map fun (x : Nat) => ((x : Int), (tn p x low : Int) - 1)
/-- nothing lies between -/
def PapOk (p : Nat) (r : List Nat) (low high : Nat) : Prop := ∀ m, Mk (p :: r) m → low ≤ m → high < m
theorem pap_iff {p : Nat} {r : List Nat} {low high : Nat} (g : Good (p :: r)) (hl : 0 < low) : PapOk p r low high ↔ ∀ x ∈ allL r high, high < x * p ^ tn p x low := by
  constructor
  · intro h x hx
    have hm := (allL_mem.mp hx).1
    exact h _ (mk_cons.mpr ⟨_, x, rfl, hm⟩) (tn_ge g.head hl (mk_pos g.tail.ge hm))
  · intro h m hm hlm
    rcases Nat.lt_or_ge high m with z | z
    · exact z
    · obtain ⟨k, x, rfl, hx⟩ := mk_cons.mp hm
      have hx0 := mk_pos g.tail.ge hx
      have h1 := h x (allL_mem.mpr ⟨hx, Nat.le_trans (Nat.le_mul_of_pos_right _ (Nat.pow_pos (by have := g.head; omega))) z⟩)
      have h2 : x * p ^ tn p x low ≤ x * p ^ k := Nat.mul_le_mul_left _ (Nat.pow_le_pow_right (by have := g.head; omega) (tn_least g.head hl hx0 hlm))
      omega
theorem pap_over {p : Nat} {r : List Nat} {low high : Nat} (h : high < low) : PapOk p r low high := fun m _ hlm => by omega
theorem pap_mono {p : Nat} {r : List Nat} {low high amid : Nat} (h : PapOk p r low high) (ha : amid ≤ high) : PapOk p r low amid := fun m hm hlm => by have := h m hm hlm; omega
theorem pap_cnt {p : Nat} {r : List Nat} {low high : Nat} (hl : 0 < low) (hlh : low ≤ high) : cnt (p :: r) high = cnt (p :: r) (low - 1) ↔ PapOk p r low high := by
  constructor
  · intro h m hm hlm
    rcases Nat.lt_or_ge high m with z | z
    · exact z
    · have h1 := cnt_lt (show low - 1 < m by omega) hm
      have h2 : cnt (p :: r) m ≤ cnt (p :: r) high := cnt_mono z
      omega
  · intro h
    exact cnt_gap (by omega) fun n h1 h2 hm => by have := h n hm (by omega); omega
theorem pap_nxt {p : Nat} {r : List Nat} {low high : Nat} (g : Good (p :: r)) (hl : 0 < low) : high < nxt (p :: r) (low - 1) ↔ PapOk p r low high := by
  have hn := nxt_is g (by simp) (low - 1)
  constructor
  · intro h m hm hlm
    have := hn.le m hm (by omega)
    omega
  · intro h
    exact h _ hn.made (by have := hn.gt; omega)
theorem pap_two {p : Nat} {r : List Nat} {low high : Nat} (h : PapOk p r low high) (hl : 0 < low) (hlh : low ≤ high) : 2 ≤ low := by
  rcases Nat.lt_or_ge low 2 with z | z
  · have := h 1 .one (by omega); omega
  · exact z
theorem pap_lst {p : Nat} {r : List Nat} {low high : Nat} (h : PapOk p r low high) (h2 : 2 ≤ low) (hlh : low ≤ high) : lst (p :: r) (high + 1) = lst (p :: r) low := by
  have hl := lst_is (row := p :: r) h2
  refine lst_eq ⟨hl.made, by have := hl.lt; omega, fun m hm hlt => ?_⟩
  rcases Nat.lt_or_ge m low with z | z
  · exact hl.ge m hm z
  · have := h m hm z; omega
theorem allL_filter {r : List Nat} {a b : Nat} (h : a ≤ b) : ((allL r b).filter fun x => decide (x ≤ a)) = allL r a := eq_of_pair ((allL_pair r b).sublist List.filter_sublist) (allL_pair r a) fun x => by
  rw [List.mem_filter, allL_mem, allL_mem, decide_eq_true_eq]
  constructor
  · rintro ⟨⟨h1, _⟩, h2⟩; exact ⟨h1, h2⟩
  · rintro ⟨h1, h2⟩; exact ⟨⟨h1, by omega⟩, h2⟩
theorem ppr_filter {p : Nat} {r : List Nat} {low high amid : Nat} (h1 : low ≤ amid) (h2 : amid ≤ high) : ((ppr p r low high).filter fun q => decide (q.1 ≤ (amid : Int))) = ppr p r low amid := by
  unfold ppr
  rw [if_neg (by omega), if_neg (by omega), List.filter_map, ← allL_filter h2]
  congr 1
  refine List.filter_congr fun x _ => ?_
  simp only [Function.comp]
  exact decide_eq_decide.mpr (by omega)
end MA
set_option Elab.async false
set_option linter.all false
set_option maxRecDepth 100000
set_option maxHeartbeats 4000000
namespace Px
open PySem L2 MA
local macro_rules | `(tactic| bv_omega) => `(tactic| first | assumption | omega | exact cm (by omega) | exact cd (by omega) | exact cp (by omega) | exact trivial)
local macro_rules | `(tactic| array_get_dec) => `(tactic| first
  | assumption
  | exact sq_up
  | exact Own.sqi (by assumption) 0 (by rfl)
  | exact Own.sqi (by assumption) 1 (by rfl)
  | exact Own.sqi (by assumption) 2 (by rfl)
  | exact Own.sqi (by assumption) 3 (by rfl)
  | exact Own.sqi (by assumption) 4 (by rfl)
  | exact Own.sq (by assumption) (by assumption)
  | exact sq_new (by assumption) (by assumption))
local macro_rules | `(tactic| clean_wf) => `(tactic| first
  | with_reducible exact ev_c
  | (with_reducible apply ev_v') <;> rfl
  | (with_reducible apply ev_add) <;> clean_wf
  | (with_reducible apply ev_sub) <;> clean_wf
  | (with_reducible apply ev_mul) <;> clean_wf
  | (with_reducible apply ev_mod) <;> clean_wf
  | (with_reducible apply ev_div) <;> clean_wf
  | (with_reducible apply ev_pow) <;> clean_wf
  | (with_reducible apply ev_neg) <;> clean_wf
  | (with_reducible apply ev_lt) <;> clean_wf
  | (with_reducible apply ev_le) <;> clean_wf
  | (with_reducible apply ev_gt) <;> clean_wf
  | (with_reducible apply ev_ge) <;> clean_wf
  | (with_reducible apply ev_eqi) <;> clean_wf
  | (with_reducible apply ev_nei) <;> clean_wf
  | (with_reducible apply ev_len) <;> clean_wf
  | (with_reducible apply ev_ixL) <;> clean_wf
  | (with_reducible apply ev_min) <;> clean_wf
  | (with_reducible apply ev_max) <;> clean_wf
  | (with_reducible apply ev_abs) <;> clean_wf
  | (with_reducible apply ev_intB) <;> clean_wf
  | (with_reducible apply ea_1) <;> clean_wf
  | (with_reducible apply ea_2) <;> clean_wf
  | (with_reducible apply ea_3) <;> clean_wf
  | with_reducible exact ea_nil
  | (with_reducible apply ea_cons) <;> clean_wf
  | with_reducible exact el_nil
  | (with_reducible apply ep_lt) <;> clean_wf
  | (with_reducible apply ep_le) <;> clean_wf
  | (with_reducible apply ep_gt) <;> clean_wf
  | (with_reducible apply ep_ge) <;> clean_wf
  | (with_reducible apply ep_eqi) <;> clean_wf
  | (with_reducible apply ep_nei) <;> clean_wf
  | (with_reducible apply ep_not) <;> clean_wf
  | ((with_reducible apply ep_and) <;> first | (intro _; clean_wf; done) | clean_wf)
  | ((with_reducible apply ep_or) <;> first | (intro _; clean_wf; done) | clean_wf)
  | (with_reducible apply et_t) <;> clean_wf
  | (with_reducible apply eo_is) <;> clean_wf
  | with_reducible exact eo_no
  | array_get_dec
  | bv_omega
  | rfl
  | skip)
local macro_rules | `(tactic| symm_saturate) => `(tactic| first
  | ((with_reducible apply q_set); (focus (clean_wf; done)))
  | ((with_reducible apply s_set); (focus (clean_wf; done)))
  | ((with_reducible apply q_aug (hx := rfl)); (focus (clean_wf; done)))
  | ((with_reducible apply s_aug (hx := rfl)); (focus (clean_wf; done)))
  | ((with_reducible apply q_augC (hx := rfl)); (focus (clean_wf; done)))
  | ((with_reducible apply s_augC (hx := rfl)); (focus (clean_wf; done))))
local macro_rules | `(tactic| subst_eqs) => `(tactic| repeat' (first
  | with_reducible apply w_c
  | ((with_reducible apply w_v'); (focus rfl))
  | with_reducible apply w_op
  | with_reducible apply w_cb
  | with_reducible apply w_cons
  | with_reducible apply w_nil
  | with_reducible apply r_add
  | with_reducible apply r_sub
  | ((with_reducible apply r_mul); (focus (bv_omega; done)))
  | ((with_reducible apply r_div); (focus (bv_omega; done)))
  | ((with_reducible apply r_mod); (focus (bv_omega; done)))
  | ((with_reducible apply r_pow); (focus (bv_omega; done)))
  | with_reducible apply r_lt
  | with_reducible apply r_le
  | with_reducible apply r_gt
  | with_reducible apply r_ge
  | with_reducible apply r_min
  | with_reducible apply r_max
  | with_reducible apply r_intB
  | ((with_reducible apply r_len); (focus (array_get_dec; done)))
  | with_reducible apply w_callW
  | with_reducible apply q_setW
  | with_reducible apply s_setW
  | with_reducible apply s_retW))

/-! ### the rests -/
def sp_rests_to (K : PySem.W.Frag) : Sp := fun vs H Q _ => Nod H ∧ ∃ (a : Addr) (p : Nat) (r : List Nat) (n : Nat), vs = [.ref a, .int (n : Int)] ∧ SqL K H a (zv (p :: r)) ∧ Rw (p :: r) ∧ Fits r n ∧
  ∀ (p1 : Addr), H p1 = none → Q (.ref p1) (upd H p1 (.lst (zv (allL r n))))
/-- slots: row bound found prime times one -/
abbrev n_rests_to : List Str := ["row", "bound", "found", "prime", "times", "one"]
def t_rests_to (K : PySem.W.Frag) : TS := (sFg (tSeq (tAsg (tFg (tOp rRep (tLst (tCons (tC (.int 1)) tNil)) (tCB cInt (tCons (tOp oGe (tVar 1) (tC (.int 1))) tNil)))) (gName 2))
  (tSeq (tFor (iList K (tSl (rSlL K) (tVar 0) (tPart (tC (.int 1))) tNoPart)) (gName 3) (tSeq (tAsg (tCB (cList K) (tCons (tVar 2) tNil)) (gName 4))
  (tWhile (bFg (tTest (tOp (rNeD K) (tVar 4) (tLst tNil)))) (tSeq (tAsg (tLc (iList K (tVar 4)) (gName 5) (tTest (tOp oLe (tOp oMul (tVar 3) (tVar 5)) (tVar 1))) (tOp oMul (tVar 3) (tVar 5)) [5]) (gName 4))
  (tDrop (tBM K "list" rExtend (tVar 2) (tCons (tVar 4) tNil)))))))
  (tRet (tCB (rSortedI K) (tCons (tVar 2) tNil))))))
theorem r_rests_to {K : PySem.W.Frag} {vs : List V} {H : Hp} {Q : VK} {E : XK} (h : sp_rests_to K vs H Q E) : t_rests_to K { nx := fun _ H' => Q .non H', rt := Q } (start n_rests_to vs) H := by
  obtain ⟨nd, a, p, r, n, rfl, sa, w, f, q⟩ := h
  obtain ⟨F0, e0, h0⟩ := one_all (b := (n : Int)) (n := n) (.inl rfl)
  refine fg_body (q_setL (el_one rfl) fun pf hp => ?_)
  rw [e0]
  have o : Own H [(pf, zv F0)] (upd H pf (.lst (zv F0))) := Own.nil.new hp
  refine q_seq (w_forL (w_evL (el_sl (ev_v 0) (eo_is (ev_eq (y := .int ((1 : Nat) : Int)) ev_c rfl)) eo_no (o.sq sa)) fun p1 hp1 => ?_))
  rw [cut_fromN]
  replace o : Own H [(p1, zv r), (pf, zv F0)] _ := o.new (xs := zv ((p :: r).drop 1)) hp1
  refine ⟨p1, rfl, ⟨_, o.sqi 0 rfl⟩, lp_made (row := r) (L := [(p1, zv r)]) (o.perm (.swap ..)) w.tail f h0 (.inl rfl) (fun F H' o => o.sqi 1 rfl) fun H' F y3 y4 o hF => ?_⟩
  refine s_retW (w_cb (w_one (w_v 2 (r_sortN (o.sqi 0 rfl) fun l ps hl hle hps => ?_))))
  rw [hF.sorted hl hle]
  have o2 := o.new (xs := zv (allL r n)) hps
  exact ⟨_, o2.ret 0 rfl, q ps (o2.offI 0 rfl)⟩
/-! ### powers -/
def sp_power_below (K : PySem.W.Frag) : Sp := fun vs H Q _ => Nod H ∧ ∃ (p x low : Nat), vs = [.int (p : Int), .int (x : Int), .int (low : Int)] ∧ 2 ≤ p ∧ p ≤ 97 ∧ 0 < x ∧ x < 2 ^ 70 ∧ 0 < low ∧ low < 2 ^ 70 ∧ Q (.int ((tn p x low : Int) - 1)) H
/-- slots: prime rest low power here -/
abbrev n_power_below : List Str := ["prime", "rest", "low", "power", "here"]
def t_power_below (K : PySem.W.Frag) : TS := (sFg (tSeq (tAsg (tUn uNeg (tC (.int 1))) (gName 3))
  (tSeq (tAsg (tVar 1) (gName 4))
  (tSeq (tWhile (tTest (tOp oLt (tVar 4) (tVar 2))) (tSeq (tAug 3 (tC (.int 1)) (ipI fun i j => i + j))
  (tAug 4 (tVar 0) (ipC CMulW fun i j => i * j))))
  (tRet (tVar 3))))))
theorem r_power_below {K : PySem.W.Frag} {vs : List V} {H : Hp} {Q : VK} {E : XK} (h : sp_power_below K vs H Q E) : t_power_below K { nx := fun _ H' => Q .non H', rt := Q } (start n_power_below vs) H := by
  obtain ⟨nd, p, x, low, rfl, hp, hp2, hx, hx2, hl, hl2, q⟩ := h
  refine fg_body (q_set (ev_neg ev_c) (q_set (ev_v 1) (q_whileP (fun m σ' H' => ∃ (k y : Nat), σ' = [some (.int (p : Int)), some (.int (x : Int)), some (.int (low : Int)), some (.int ((k : Int) - 1)), some (.int (y : Int))] ∧ H' = H ∧ m = 2 ^ 80 - y ∧ 0 < y ∧ y < 2 ^ 80 ∧ k + (pwl p (low - 1) y).length = tn p x low) (2 ^ 80 - x) ⟨0, x, rfl, rfl, rfl, by omega, by omega, by unfold tn; omega⟩ (fun m σ' H' hw => ?_))))
  obtain ⟨k, y, rfl, rfl, rfl, hy, hy2, he⟩ := hw
  have hyp : (y : Int) * (p : Int) = ((y * p : Nat) : Int) := by simp
  have h2 : y * 2 ≤ y * p := Nat.mul_le_mul_left y hp
  refine ⟨_, ep_lt (i := (y : Int)) (j := (low : Int)) (ev_v 4) (ev_v 2), fun hc => ?_, fun hc => ?_⟩
  · have hyb : y ≤ low - 1 := by omega
    have h3 : y * p ≤ 2 ^ 70 * 97 := Nat.mul_le_mul (by omega) hp2
    rw [pwl_yes hp hy hyb, List.length_cons] at he
    refine q_aug (a := (k : Int) - 1) ev_c (s_augC (a := (y : Int)) (b := (p : Int)) (ev_v 0) ⟨2 ^ 80 - y * p, by omega, k + 1, y * p, ?_, rfl, rfl, by omega, by omega, by omega⟩ (cm (by omega)))
    show [some (V.int (p : Int)), some (V.int (x : Int)), some (V.int (low : Int)), some (V.int ((k : Int) - 1 + 1)), some (V.int ((y : Int) * (p : Int)))] = _
    rw [hyp, show (k : Int) - 1 + 1 = ((k + 1 : Nat) : Int) - 1 by omega]
  · rw [pwl_no (by omega), List.length_nil] at he
    have e : k = tn p x low := by omega
    rw [← e] at q
    exact s_ret (ev_v 3) ⟨_, fg_same ex_refl, q⟩
def sp_is_far (K : PySem.W.Frag) : Sp := fun vs H Q _ => Nod H ∧ ∃ (p x t high : Nat), vs = [.int (p : Int), .int (x : Int), .int ((t : Int) - 1), .int (high : Int)] ∧ 2 ≤ p ∧ p ≤ 97 ∧ 0 < x ∧ t < 2 ^ 60 ∧ x * p ^ t < 2 ^ 100 ∧ Q (.bl (decide (high < x * p ^ t))) H
/-- slots: prime rest power high here turn -/
abbrev n_is_far : List Str := ["prime", "rest", "power", "high", "here", "turn"]
def t_is_far (K : PySem.W.Frag) : TS := (sFg (tSeq (tAsg (tVar 1) (gName 4))
  (tSeq (tFor (iRng1 (tCons (tOp oAdd (tVar 2) (tC (.int 1))) tNil)) (gName 5) (tAug 4 (tVar 0) (ipC CMulW fun i j => i * j)))
  (tRet (tOp oGt (tVar 4) (tVar 3))))))
theorem r_is_far {K : PySem.W.Frag} {vs : List V} {H : Hp} {Q : VK} {E : XK} (h : sp_is_far K vs H Q E) : t_is_far K { nx := fun _ H' => Q .non H', rt := Q } (start n_is_far vs) H := by
  obtain ⟨nd, p, x, t, high, rfl, hp, hp2, hx, ht, hb, q⟩ := h
  have hmono : ∀ i, i ≤ t → x * p ^ i < 2 ^ 100 := fun i hi => Nat.lt_of_le_of_lt (Nat.mul_le_mul_left _ (Nat.pow_le_pow_right (by omega) hi)) hb
  refine fg_body (q_set (ev_v 1) (q_forR1 (k := (t : Int)) (ea_1 (ev_eq (ev_add (i := (t : Int) - 1) (ev_v 2) ev_c) (by congr 1; omega))) (by omega) (fun i σ' H' => ∃ y5 : Option V, σ' = [some (.int (p : Int)), some (.int (x : Int)), some (.int ((t : Int) - 1)), some (.int (high : Int)), some (.int ((x * p ^ i : Nat) : Int)), y5] ∧ H' = H) ⟨none, by simp; rfl, rfl⟩ (fun i σ' H' hi hv => ?_) (fun σ' H' hv => ?_)))
  · obtain ⟨y5, rfl, rfl⟩ := hv
    have h1 := hmono i (by omega)
    refine s_augC (a := ((x * p ^ i : Nat) : Int)) (b := (p : Int)) (ev_v 0) ⟨some (.int (i : Int)), ?_, rfl⟩ (cm (by omega))
    rw [Nat.pow_succ, ← Nat.mul_assoc, Int.natCast_mul (x * p ^ i) p]
    rfl
  · obtain ⟨y5, rfl, rfl⟩ := hv
    rw [show ((t : Int)).toNat = t by omega]
    refine s_ret (ev_eq (ev_gt (i := ((x * p ^ t : Nat) : Int)) (ev_v 4) (ev_v 3)) ?_) ⟨_, fg_same ex_refl, q⟩
    congr 1
    exact decide_eq_decide.mpr (by omega)
/-! ### the paper -/
structure PapIn (p : Nat) (r : List Nat) (low high : Nat) : Prop where
  w : Rw (p :: r)
  four : r.length ≤ 4
  low0 : 0 < low
  low1 : low < 2 ^ 60
  high1 : high < 2 ^ 60
theorem PapIn.fits {p : Nat} {r : List Nat} {low high : Nat} (i : PapIn p r low high) : Fits r high := .inl ⟨i.four, by have := i.high1; omega⟩
theorem PapIn.len {p : Nat} {r : List Nat} {low high : Nat} (i : PapIn p r low high) : (ppr p r low high).length ≤ 9000000 := by
  unfold ppr
  split
  · simp
  · rw [List.length_map]; exact i.w.tail.fit i.fits
/-- a paper that was just made -/
def PapAt (H : Hp) (qs : List (Int × Int)) (Q : VK) : Prop := ∀ (p1 : Addr) (as : List Addr) (H' : Hp), H p1 = none → (∀ b ∈ as, H b = none) → Ex H H' → Nod H' → Prs H' p1 as qs → Q (.ref p1) H'
def sp_right_paper (K : PySem.W.Frag) : Sp := fun vs H Q _ => Nod H ∧ ∃ (a : Addr) (p : Nat) (r : List Nat) (low high : Nat), vs = [.ref a, .int (low : Int), .int (high : Int)] ∧ RowAt H a (p :: r) ∧ PapIn p r low high ∧ PapAt H (ppr p r low high) Q
/-- slots: row low high rest -/
abbrev n_right_paper : List Str := ["row", "low", "high", "rest"]
def t_right_paper (K : PySem.W.Frag) : TS := (sFg (tSeq (tIfS (tTest (tOp oGt (tVar 1) (tVar 2))) (tRet (tLst tNil)) tNext)
  (tRet (tLc (iList K (tCall (sp_rests_to K) [] E0 (tCons (tVar 0) (tCons (tVar 2) tNil)))) (gName 3) tYes (tTup (tCons (tVar 3) (tCons (tCall (sp_power_below K) [] E0 (tCons (tOp (rIxL K) (tVar 0) (tC (.int 0))) (tCons (tVar 3) (tCons (tVar 1) tNil)))) tNil))) [3]))))
theorem r_right_paper {K : PySem.W.Frag} {vs : List V} {H : Hp} {Q : VK} {E : XK} (h : sp_right_paper K vs H Q E) : t_right_paper K { nx := fun _ H' => Q .non H', rt := Q } (start n_right_paper vs) H := by
  obtain ⟨nd, a, p, r, low, high, rfl, ra, i, q⟩ := h
  have hp := i.w.ge (p := p) List.mem_cons_self
  have o : Own H [] H := Own.nil
  have hl0 := i.low0
  have hl1 := i.low1
  have hh1 := i.high1
  refine fg_body (q_whenP (ep_gt (i := (low : Int)) (j := (high : Int)) (ev_v 1) (ev_v 2)) (fun hc => ?_) fun hc => ?_)
  · have e : ppr p r low high = [] := if_pos (by omega)
    rw [e] at q
    exact s_retL el_nil fun p1 hp1 => ⟨_, fg_newL hp1 (ex_new hp1) upd_same, q p1 [] _ hp1 (fun _ h => (List.not_mem_nil h).elim) (ex_new hp1) inferInstance (.nil upd_same)⟩
  have e : ppr p r low high = (allL r high).map fun (x : Nat) => ((x : Int), (tn p x low : Int) - 1) := if_neg (by omega)
  rw [e] at q
  refine s_retW (w_lcLW (w_callW (w_cons (w_v 0 (w_one (w_v 2 ⟨nd, a, p, r, high, rfl, ra.sq, i.w, i.fits, fun p1 hp1 => ⟨p1, rfl, ⟨_, sq_up⟩, ?_⟩⟩))))))
  replace o : Own H [(p1, zv (allL r high))] _ := o.new hp1
  have hall : ∀ x ∈ allL r high, 0 < x ∧ x ≤ high := fun x hx => ⟨mk_pos i.w.tail.good.ge (allL_mem.mp hx).1, (allL_mem.mp hx).2⟩
  have hlen : (allL r high).length ≤ 9000000 := i.w.tail.fit i.fits
  generalize allL r high = l at o q hall hlen hp1
  refine lcat_list (K := K) (xs := zv l) (fun D j H' => ∃ (B' : Hp) (as : List Addr), Ex H B' ∧ Own B' [(D, as.map V.ref), (p1, zv l)] H' ∧ as.length = j ∧ (∀ b ∈ as, H b = none) ∧ ∀ (k : Nat) (b : Addr) (x : Nat), as[k]? = some b → l[k]? = some x → B' b = some (.tup (pvals ((x : Int), (tn p x low : Int) - 1))))
    (fun D hD => ⟨H, [], ex_refl, o.new hD, rfl, (fun _ h => (List.not_mem_nil h).elim), fun k b x h => by simp at h⟩) (fun D j H' hD hv => ?_) (fun D j v H' hD hv hI => ?_) fun D H' hD hI => ?_
  · obtain ⟨_, _, _, o, _⟩ := hv
    exact o.sqi 1 rfl
  · obtain ⟨B', as, eB, o, hal, hnew, htup⟩ := hI
    obtain ⟨x, hx, rfl⟩ := zv_some hv
    have hxb := hall x (List.mem_of_getElem? hx)
    have no := o.nod
    have ra' := ra.ex (ex_trans eB o.ex)
    refine ⟨rfl, et_yes _ (iteT (w_tupW (w_cons (w_v 3 (w_one (w_ev (v := .int ((tn p x low : Int) - 1)) (ev_call (ea_3 (ev_ixL (i := 0) (v := .int (p : Int)) (ev_v 0) ev_c ra'.sq zv_0) (ev_v 3) (ev_v 1)) fun Q q => ⟨no, p, x, low, rfl, hp.1, hp.2, hxb.1, by omega, hl0, by omega, q⟩) ⟨by show 2 ≤ sizeLine; decide, fun t ht => ?_⟩))))))⟩
    have o2 := o.tupB (xs := pvals ((x : Int), (tn p x low : Int) - 1)) ht
    have htB : B' t = none := ex_none o.ex ht
    refine ⟨_, o2.atI 0 rfl, ?_, upd B' t (.tup (pvals ((x : Int), (tn p x low : Int) - 1))), as ++ [t], ex_trans eB (ex_new htB), ?_, by simp [hal], fun b hb => ?_, fun k b y h1 h2 => ?_⟩
    · rw [List.length_map]
      have := (List.getElem?_eq_some_iff.mp hx).1
      exact szl (by omega)
    · have := o2.mut (ys := (as ++ [t]).map V.ref) 0 rfl
      rw [show as.map V.ref ++ [V.ref t] = (as ++ [t]).map V.ref by simp]
      exact this
    · rcases List.mem_append.mp hb with hb | hb
      · exact hnew b hb
      · rw [List.mem_singleton.mp hb]; exact ex_none eB htB
    · rcases Nat.lt_or_ge k as.length with z | z
      · rw [List.getElem?_append_left z] at h1
        have := htup k b y h1 h2
        rw [upd_ne (fun w => by rw [w, htB] at this; cases this)]
        exact this
      · rw [List.getElem?_append_right z] at h1
        have hk : k - as.length = 0 := by
          rcases Nat.eq_zero_or_pos (k - as.length) with y | y
          · exact y
          · rw [List.getElem?_eq_none (by simp; omega)] at h1; cases h1
        rw [hk] at h1
        cases h1
        have : k = j := by omega
        subst this
        rw [hx] at h2
        cases h2
        exact upd_same
  · obtain ⟨B', as, eB, o, hal, hnew, htup⟩ := hI
    rw [zv_len] at hal
    have hpr : Prs H' D as (l.map fun (x : Nat) => ((x : Int), (tn p x low : Int) - 1)) := ⟨o.atI 0 rfl, by rw [List.length_map]; exact hal, fun k b q h1 h2 => by
      rw [List.getElem?_map] at h2
      cases e : l[k]? with
      | none => rw [e] at h2; cases h2
      | some x =>
        rw [e] at h2
        cases h2
        exact o.ex _ _ (htup k b x h1 e)⟩
    have hD0 : H D = none := ex_none (ex_trans eB ex_refl) (o.offI 0 rfl)
    have hS : ∀ b ∈ D :: as, H b = none ∧ ∃ u, fresh u ∧ H' b = some u := fun b hb => ⟨by
      rcases List.mem_cons.mp hb with rfl | hb
      · exact hD0
      · exact hnew b hb, hpr.all b hb⟩
    exact ⟨_, fg_keepS (ex_trans eB o.ex) hS, q D as _ hD0 hnew (keepS_ex fun b hb => (hS b hb).1) (keepS_nod fun b hb => (hS b hb).2) (hpr.keep List.mem_cons_self fun b hb => List.mem_cons_of_mem _ hb)⟩

/-- what paper_of tells -/
def sp_paper_of (K : PySem.W.Frag) : Sp := fun vs H Q _ => Nod H ∧ ∃ (a : Addr) (p : Nat) (r : List Nat) (low high : Nat), vs = [.ref a, .int (low : Int), .int (high : Int)] ∧ RowAt H a (p :: r) ∧ PapIn p r low high ∧
  (¬ PapOk p r low high → Q .non H) ∧ (PapOk p r low high → PapAt H (ppr p r low high) Q)
/-- slots: row low high found rest power -/
abbrev n_paper_of : List Str := ["row", "low", "high", "found", "rest", "power"]
def t_paper_of (K : PySem.W.Frag) : TS := (sFg (tSeq (tDrop (tCall (sp_is_made_of K) [] E0 (tCons (tVar 0) (tCons (tC (.int 1)) tNil))))
  (tSeq (tAsg (tCall (sp_right_paper K) [] E0 (tCons (tVar 0) (tCons (tVar 1) (tCons (tVar 2) tNil)))) (gName 3))
  (tSeq (tIfS (tTest (tOp (rNeD K) (tLc (iList K (tVar 3)) (gTup K 2 (gCons (gName 4) (gCons (gName 5) gNil))) (tNot (tB (tCall (sp_is_far K) [] E0 (tCons (tOp (rIxL K) (tVar 0) (tC (.int 0))) (tCons (tVar 4) (tCons (tVar 5) (tCons (tVar 2) tNil))))))) (tVar 4) [4, 5]) (tLst tNil))) (tRet (tC .non)) tNext)
  (tRet (tVar 3))))))
def badL (p high : Nat) (t : Int × Int → Nat) (qs : List (Int × Int)) : List Int := (qs.filter fun q => !decide (high < q.1.toNat * p ^ (t q))).map (·.1)
theorem r_paper_of {K : PySem.W.Frag} {vs : List V} {H : Hp} {Q : VK} {E : XK} (h : sp_paper_of K vs H Q E) : t_paper_of K { nx := fun _ H' => Q .non H', rt := Q } (start n_paper_of vs) H := by
  obtain ⟨nd, a, p, r, low, high, rfl, ra, i, q1, q2⟩ := h
  have hp := i.w.ge (p := p) List.mem_cons_self
  have g := i.w.good
  have hl0 := i.low0
  have hl1 := i.low1
  have hh1 := i.high1
  have hlen := i.len
  refine fg_body (q_drop (e_made (n := 1) ra (ev_v 0) ev_c _ ?_))
  refine q_setW (w_callW (w_cons (w_v 0 (w_cons (w_v 1 (w_one (w_v 2 ⟨nd, a, p, r, low, high, rfl, ra, i, fun pf as H1 hpf has e1 n1 pr => ?_⟩)))))))
  -- what stands in the paper
  have hq : ∀ (j : Nat) (z : Int × Int), (ppr p r low high)[j]? = some z → ∃ x : Nat, x ∈ allL r high ∧ low ≤ high ∧ z = ((x : Int), (tn p x low : Int) - 1) := fun j z hz => by
    unfold ppr at hz
    split at hz
    · simp at hz
    · rw [List.getElem?_map] at hz
      cases e : (allL r high)[j]? with
      | none => rw [e] at hz; cases hz
      | some x => rw [e] at hz; cases hz; exact ⟨x, List.mem_of_getElem? e, by omega, rfl⟩
  generalize hqs : ppr p r low high = qs at pr hq hlen q2
  have o : Own H1 [] H1 := Own.nil
  let bad : List (Int × Int) → List Int := fun l => (l.filter fun z => !decide (high < z.1.toNat * p ^ (z.2 + 1).toNat)).map (·.1)
  refine q_ifW (w_tst (w_op (w_lcG (xs := as.map V.ref) (ev_v 3) (sq_at pr.lst) (fun D j H2 => Own H1 [(D, (bad (qs.take j)).map V.int)] H2) (fun D hD => by simpa [bad] using o.new (xs := []) hD) (fun D j H2 hD o => sq_at (o.ex _ _ pr.lst)) (fun D j v H2 hD hj o => ?_) fun D H2 hD o => ?_)))
  · obtain ⟨b, z, e1', rfl, hz, hb⟩ := pr.get hj
    obtain ⟨x, hx, hlh, rfl⟩ := hq j z hz
    have hx0 := mk_pos g.tail.ge (allL_mem.mp hx).1
    have hxh := (allL_mem.mp hx).2
    have hbound : x * p ^ tn p x low < 2 ^ 100 := by
      have h1 := tn_bound (p := p) hp.1 hl0 hx0
      have h2 : low * p ≤ 2 ^ 60 * 97 := Nat.mul_le_mul (by omega) hp.2
      omega
    have hts := tn_small (p := p) hp.1 hl0 hx0
    have no := o.nod
    have etake : qs.take (j + 1) = qs.take j ++ [((x : Int), (tn p x low : Int) - 1)] := by rw [List.take_add_one, hz]; rfl
    have epw : ((tn p x low : Int) - 1 + 1).toNat = tn p x low := by omega
    refine g_pair (o.ex _ _ hb) ⟨rfl, w_evT (b := !decide (high < x * p ^ tn p x low)) (et_not (et_b (ev_call (ea_cons (ev_ixL (i := 0) (v := .int (p : Int)) (ev_v 0) ev_c ((ra.ex (ex_trans e1 o.ex)).sq) zv_0) (ea_3 (ev_v 4) (ev_v 5) (ev_v 2))) fun Q q => ⟨no, p, x, tn p x low, high, rfl, hp.1, hp.2, hx0, by omega, hbound, q⟩))) ?_⟩
    by_cases hfar : high < x * p ^ tn p x low
    · rw [decide_eq_true hfar]
      refine iteF ?_
      have : bad (qs.take (j + 1)) = bad (qs.take j) := by
        simp only [bad]
        rw [etake, List.filter_append, List.filter_cons_of_neg (by simp [epw, hfar])]
        simp
      rw [this]; exact o
    · rw [decide_eq_false hfar]
      refine iteT (w_v 4 ⟨_, o.atI 0 rfl, ?_, ?_⟩)
      · rw [List.length_map]
        have h1 : (bad (qs.take j)).length ≤ qs.length := by
          simp only [bad]
          rw [List.length_map]
          refine Nat.le_trans (List.length_filter_le _ _) ?_
          rw [List.length_take]; omega
        exact szl (by omega)
      · have : bad (qs.take (j + 1)) = bad (qs.take j) ++ [(x : Int)] := by
          simp only [bad]
          rw [etake, List.filter_append, List.filter_cons_of_pos (by simp [epw]; omega)]
          simp
        rw [this, List.map_append]
        exact o.mut 0 rfl
  rw [List.length_map, pr.len, List.take_length] at o
  refine el_nil _ fun p2 hp2 => rv_neI (ns := bad qs) (ms := []) (sq_new hp2 (o.sqi 0 rfl)) sq_up _ ⟨_, rfl, ?_⟩
  have o2 := o.tmp (xs := []) hp2
  have hbad : bad qs = [] ↔ PapOk p r low high := by
    by_cases hlh : high < low
    · have : qs = [] := by rw [← hqs]; exact if_pos hlh
      rw [this]
      exact ⟨fun _ => pap_over hlh, fun _ => rfl⟩
    · rw [pap_iff g hl0]
      simp only [bad, List.map_eq_nil_iff, List.filter_eq_nil_iff]
      rw [← hqs]
      unfold ppr
      rw [if_neg hlh]
      constructor
      · intro h x hx
        have := h _ (List.mem_map.mpr ⟨x, hx, rfl⟩)
        rw [show ((tn p x low : Int) - 1 + 1).toNat = tn p x low by omega] at this
        simpa using this
      · intro h z hz
        obtain ⟨x, hx, rfl⟩ := List.mem_map.mp hz
        rw [show ((tn p x low : Int) - 1 + 1).toNat = tn p x low by omega]
        have := h x hx
        simpa using this
  by_cases hok : PapOk p r low high
  · rw [hbad.mpr hok]
    refine iteF (w_next (s_ret (ev_v 3) ?_))
    have hS : ∀ b ∈ pf :: as, H b = none ∧ ∃ u, fresh u ∧ (upd H2 p2 (.lst [])) b = some u := fun b hb => ⟨by
      rcases List.mem_cons.mp hb with rfl | hb
      · exact hpf
      · exact has b hb, (pr.ex o2.ex).all b hb⟩
    exact ⟨_, fg_keepS (ex_trans e1 o2.ex) hS, q2 hok pf as _ hpf has (keepS_ex fun b hb => (hS b hb).1) (keepS_nod fun b hb => (hS b hb).2) ((pr.ex o2.ex).keep List.mem_cons_self fun b hb => List.mem_cons_of_mem _ hb)⟩
  · rw [decide_eq_false (fun z => hok (hbad.mp z))]
    exact iteT (s_ret ev_c ⟨H, fg_same (ex_trans e1 o2.ex), q1 hok⟩)
/-! ### judging a paper -/
def sp_is_paper (K : PySem.W.Frag) : Sp := fun vs H Q _ => Nod H ∧ ∃ (a t : Addr) (p : Nat) (r : List Nat) (low high : Nat), vs = [.ref a, .int (low : Int), .int (high : Int), .ref t] ∧ RowAt H a (p :: r) ∧ PapIn p r low high ∧
  ((¬ PapOk p r low high ∧ Q (.bl false) H) ∨ (PapOk p r low high ∧ (∃ as, Prs H t as (ppr p r low high)) ∧ Q (.bl true) H))
/-- slots: row low high thing due one pair part -/
abbrev n_is_paper : List Str := ["row", "low", "high", "thing", "due", "one", "pair", "part"]
def t_is_paper (K : PySem.W.Frag) : TS := (sFg (tSeq (tAsg (tCall (sp_paper_of K) [] E0 (tCons (tVar 0) (tCons (tVar 1) (tCons (tVar 2) tNil)))) (gName 4))
  (tSeq (tIfS (tOr (tTest (tOp oIsN (tVar 4) (tC .non))) (tOr (tNot (tB (tCB (rIsi K) (tCons (tVar 3) (tCons (tC (.ty "list")) tNil))))) (tTest (tOp rNe (tCB (cLen K) (tCons (tVar 3) tNil)) (tCB (cLen K) (tCons (tVar 4) tNil)))))) (tRet (tC (.bl false))) tNext)
  (tSeq (tFor (iZip K (tCons (tVar 3) (tCons (tVar 4) tNil))) (gTup K 2 (gCons (gName 5) (gCons (gName 6) gNil))) (tSeq (tIfS (tOr (tNot (tB (tCB (rIsi K) (tCons (tVar 5) (tCons (tC (.ty "tuple")) tNil))))) (tTest (tOp rNe (tCB (cLen K) (tCons (tVar 5) tNil)) (tC (.int 2))))) (tRet (tC (.bl false))) tNext)
  (tIfS (tOr (tTest (tOp (rNeD K) (tLc (iTup K (tVar 5)) (gName 7) (tOr (tNot (tB (tCB (rIsi K) (tCons (tVar 7) (tCons (tC (.ty "int")) tNil))))) (tB (tCB (rIsi K) (tCons (tVar 7) (tCons (tC (.ty "bool")) tNil))))) (tVar 7) [7]) (tLst tNil))) (tTest (tOp (rNeD K) (tVar 5) (tVar 6)))) (tRet (tC (.bl false))) tNext)))
  (tRet (tC (.bl true)))))))
theorem r_is_paper {K : PySem.W.Frag} {vs : List V} {H : Hp} {Q : VK} {E : XK} (h : sp_is_paper K vs H Q E) : t_is_paper K { nx := fun _ H' => Q .non H', rt := Q } (start n_is_paper vs) H := by
  obtain ⟨nd, a, t, p, r, low, high, rfl, ra, i, hq⟩ := h
  refine fg_body (q_setW (w_callW (w_cons (w_v 0 (w_cons (w_v 1 (w_one (w_v 2 ⟨nd, a, p, r, low, high, rfl, ra, i, fun hno => ?_, fun hok pf as H1 hpf has e1 n1 pr => ?_⟩))))))))
  · rcases hq with ⟨_, q⟩ | ⟨hok, _⟩
    · exact q_when (b := true) (et_or (a := true) (b := true) (et_eq (et_t (ev_isN (ev_v 4))) (by simp)) fun z => nomatch z) (fun _ => s_ret ev_c ⟨H, fg_same ex_refl, q⟩) fun z => nomatch z
    · exact absurd hok hno
  rcases hq with ⟨hno, _⟩ | ⟨_, ⟨bs, pt⟩, q⟩
  · exact absurd hok hno
  generalize ppr p r low high = qs at pr pt
  have pt1 := pt.ex e1
  refine q_when (b := false) (et_eq (et_or (a := false) (et_eq (et_t (ev_isN (x := .ref pf) (ev_v 4))) (by simp)) fun _ => et_or (a := false) (et_eq (et_not (et_b (ev_isi (ev_v 3) ev_c (.ty "list") (.base (.lst pt1.lst)) (kit_ty (r := true) (by decide +kernel))))) rfl) fun _ => et_t (ev_nei (ev_len (ev_v 3) (sq_at pt1.lst)) (ev_len (ev_v 4) (sq_at pr.lst)))) (by simp [pt.len, pr.len])) (fun z => nomatch z) fun _ => ?_
  have o : Own H1 [] H1 := Own.nil
  refine q_seq (w_forZ (w_cons (w_v 3 (w_one (w_v 4 ⟨t, pf, _, _, rfl, sq_at pt1.lst, sq_at pr.lst, lp_zip (xs := bs.map V.ref) (ys := as.map V.ref) (fun j σ' H2 => ∃ y5 y6 : Option V, σ' = [some (.ref a), some (.int (low : Int)), some (.int (high : Int)), some (.ref t), some (.ref pf), y5, y6, none] ∧ Own H1 [] H2) ⟨none, none, rfl, o⟩ (fun j σ' H2 _ hv => ?_) (fun j x y σ' H2 T hx hy hv hT => ?_) (fun σ' H2 hv => ?_)⟩)))))
  · obtain ⟨_, _, _, o⟩ := hv
    exact ⟨sq_at (o.ex _ _ pt1.lst), sq_at (o.ex _ _ pr.lst)⟩
  · obtain ⟨y5, y6, rfl, o⟩ := hv
    obtain ⟨b, z, h1, rfl, h2, h3⟩ := pt1.get hx
    obtain ⟨c, z', h4, rfl, h5, h6⟩ := pr.get hy
    have ez : z = z' := by rw [h2] at h5; cases h5; rfl
    subst ez
    replace o := o.tup (xs := [.ref b, .ref c]) hT
    have hb := o.ex _ _ h3
    have hc := o.ex _ _ h6
    refine q_when (b := false) (et_eq (et_or (a := false) (et_eq (et_not (et_b (ev_isi (ev_v 5) ev_c (.ty "tuple") (.base (.tup hb)) (kit_ty (r := true) (by decide +kernel))))) rfl) fun _ => et_t (ev_nei (j := 2) (ev_lenT (ev_v 5) (st_at hb)) ev_c)) (by simp)) (fun z => nomatch z) fun _ => ?_
    refine s_ifW (w_or (w_tst (w_op (w_lcT (xs := pvals z) (ev_v 5) (st_at hb) (fun D j H3 => Own H1 [(D, [])] H3 ∧ Ex _ H3) (fun D hD => ⟨o.new hD, ex_new hD⟩) (fun D j H3 hD hv => st_at (hv.2 _ _ hb)) (fun _ => rfl) (fun D j v H3 hD hj hv => ?_) fun D H3 hD hv => ?_))))
    · obtain ⟨k, rfl⟩ : ∃ k : Int, v = .int k := by
        rcases (by simpa using (List.getElem?_eq_some_iff.mp hj).1 : j < 2) with hlt
        rcases (by omega : j = 0 ∨ j = 1) with rfl | rfl
        · cases hj; exact ⟨_, rfl⟩
        · cases hj; exact ⟨_, rfl⟩
      exact w_evT (b := false) (et_eq (et_or (a := false) (b := false) (et_eq (et_not (et_b (ev_isi (ev_v 7) ev_c (.ty "int") (.base (.int k)) (kit_ty (r := true) (by decide +kernel))))) rfl) fun _ => et_b (ev_isi (ev_v 7) ev_c (.ty "bool") (.base (.int k)) (kit_ty (r := false) (by decide +kernel)))) rfl) (iteF hv)
    · obtain ⟨o3, e3⟩ := hv
      refine el_nil _ fun p3 hp3 => rv_neI (ns := []) (ms := []) (sq_new hp3 (o3.sqi 0 rfl)) sq_up _ ⟨_, rfl, ?_⟩
      have o4 := (o3.tmp (xs := []) hp3).drop1
      have e4 := ex_trans e3 (ex_new (o := .lst []) hp3)
      rw [decide_eq_true rfl]
      refine iteF (w_evT (b := false) (et_eq (et_t (ev_op (ev_v 5) (ev_v 6) (rv_neT (e4 _ _ hb) (e4 _ _ hc)))) (by simp)) (iteF ⟨_, _, rfl, o4⟩))
  · obtain ⟨y5, y6, rfl, o⟩ := hv
    dsimp only
    exact s_ret ev_c ⟨H, fg_same (ex_trans e1 o.ex), q⟩
end Px
set_option Elab.async false
set_option linter.all false
set_option maxRecDepth 100000
set_option maxHeartbeats 4000000
namespace Px
open PySem L2 MA
local macro_rules | `(tactic| bv_omega) => `(tactic| first | assumption | omega | exact cm (by omega) | exact cd (by omega) | exact cp (by omega) | exact trivial)
local macro_rules | `(tactic| array_get_dec) => `(tactic| first
  | assumption
  | exact sq_up
  | exact Own.sqi (by assumption) 0 (by rfl)
  | exact Own.sqi (by assumption) 1 (by rfl)
  | exact Own.sqi (by assumption) 2 (by rfl)
  | exact Own.sqi (by assumption) 3 (by rfl)
  | exact Own.sqi (by assumption) 4 (by rfl)
  | exact Own.sq (by assumption) (by assumption)
  | exact sq_new (by assumption) (by assumption))
local macro_rules | `(tactic| clean_wf) => `(tactic| first
  | with_reducible exact ev_c
  | (with_reducible apply ev_v') <;> rfl
  | (with_reducible apply ev_add) <;> clean_wf
  | (with_reducible apply ev_sub) <;> clean_wf
  | (with_reducible apply ev_mul) <;> clean_wf
  | (with_reducible apply ev_mod) <;> clean_wf
  | (with_reducible apply ev_div) <;> clean_wf
  | (with_reducible apply ev_pow) <;> clean_wf
  | (with_reducible apply ev_neg) <;> clean_wf
  | (with_reducible apply ev_lt) <;> clean_wf
  | (with_reducible apply ev_le) <;> clean_wf
  | (with_reducible apply ev_gt) <;> clean_wf
  | (with_reducible apply ev_ge) <;> clean_wf
  | (with_reducible apply ev_eqi) <;> clean_wf
  | (with_reducible apply ev_nei) <;> clean_wf
  | (with_reducible apply ev_len) <;> clean_wf
  | (with_reducible apply ev_ixL) <;> clean_wf
  | (with_reducible apply ev_min) <;> clean_wf
  | (with_reducible apply ev_max) <;> clean_wf
  | (with_reducible apply ev_abs) <;> clean_wf
  | (with_reducible apply ev_intB) <;> clean_wf
  | (with_reducible apply ea_1) <;> clean_wf
  | (with_reducible apply ea_2) <;> clean_wf
  | (with_reducible apply ea_3) <;> clean_wf
  | with_reducible exact ea_nil
  | (with_reducible apply ea_cons) <;> clean_wf
  | with_reducible exact el_nil
  | (with_reducible apply ep_lt) <;> clean_wf
  | (with_reducible apply ep_le) <;> clean_wf
  | (with_reducible apply ep_gt) <;> clean_wf
  | (with_reducible apply ep_ge) <;> clean_wf
  | (with_reducible apply ep_eqi) <;> clean_wf
  | (with_reducible apply ep_nei) <;> clean_wf
  | (with_reducible apply ep_not) <;> clean_wf
  | ((with_reducible apply ep_and) <;> first | (intro _; clean_wf; done) | clean_wf)
  | ((with_reducible apply ep_or) <;> first | (intro _; clean_wf; done) | clean_wf)
  | (with_reducible apply et_t) <;> clean_wf
  | (with_reducible apply eo_is) <;> clean_wf
  | with_reducible exact eo_no
  | array_get_dec
  | bv_omega
  | rfl
  | skip)
local macro_rules | `(tactic| symm_saturate) => `(tactic| first
  | ((with_reducible apply q_set); (focus (clean_wf; done)))
  | ((with_reducible apply s_set); (focus (clean_wf; done)))
  | ((with_reducible apply q_aug (hx := rfl)); (focus (clean_wf; done)))
  | ((with_reducible apply s_aug (hx := rfl)); (focus (clean_wf; done)))
  | ((with_reducible apply q_augC (hx := rfl)); (focus (clean_wf; done)))
  | ((with_reducible apply s_augC (hx := rfl)); (focus (clean_wf; done))))
local macro_rules | `(tactic| subst_eqs) => `(tactic| repeat' (first
  | with_reducible apply w_c
  | ((with_reducible apply w_v'); (focus rfl))
  | with_reducible apply w_op
  | with_reducible apply w_cb
  | with_reducible apply w_cons
  | with_reducible apply w_nil
  | with_reducible apply r_add
  | with_reducible apply r_sub
  | ((with_reducible apply r_mul); (focus (bv_omega; done)))
  | ((with_reducible apply r_div); (focus (bv_omega; done)))
  | ((with_reducible apply r_mod); (focus (bv_omega; done)))
  | ((with_reducible apply r_pow); (focus (bv_omega; done)))
  | with_reducible apply r_lt
  | with_reducible apply r_le
  | with_reducible apply r_gt
  | with_reducible apply r_ge
  | with_reducible apply r_min
  | with_reducible apply r_max
  | with_reducible apply r_intB
  | ((with_reducible apply r_len); (focus (array_get_dec; done)))
  | with_reducible apply w_callW
  | with_reducible apply q_setW
  | with_reducible apply s_setW
  | with_reducible apply s_retW))

theorem Own.exitT {H H' : Hp} {a t : Addr} {L : List (Addr × List V)} {xs ys zs : List V} [Nod H] (o : Own (del H a) L H') (h : H a = some (.lst xs)) (i : Nat) (hi : L[i]? = some (a, ys)) (ht : H' t = none) : H t = none ∧ t ≠ a ∧ Fg H (upd H' t (.tup zs)) (upd (upd H a (.lst ys)) t (.tup zs)) := by
  have hta : t ≠ a := fun z => by have := o.atI i hi; rw [← z, ht] at this; cases this
  have h0 : H t = none := by have := ex_none o.ex ht; rw [del_ne hta] at this; exact this
  exact ⟨h0, hta, fg_mut_new (xs := xs) trivial trivial h h0 (fun b u hb hu => by rw [upd_ne (ne_of_none hu h0)]; exact o.ex b u (by rw [del_ne hb]; exact hu)) (by rw [upd_ne (Ne.symm hta)]; exact o.atI i hi) upd_same⟩
/-! ### the two numbers -/
def sp_law_gap (K : PySem.W.Frag) : Sp := fun vs H Q _ => Nod H ∧ ∃ (a r : Addr) (ds : List Int) (row : List Nat) (m : Nat), vs = [.ref a, .ref r, .int (m : Int)] ∧ H a = some (.lst (ds.map V.int)) ∧ DrOk ds ∧ SqL K H r (zv row) ∧ r ≠ a ∧ Rw row ∧ row ≠ [] ∧ row.length ≤ 5 ∧ 1 ≤ m ∧ m ≤ 10 ^ 12 ∧
  ∀ (t : Addr) (low high : Nat) (ds' : List Int), t ≠ a → H t = none → 0 < low → low < 2 ^ 59 → high < 2 ^ 59 → DrOk ds' → Q (.ref t) (upd (upd H a (.lst (ds'.map V.int))) t (.tup (pvals ((low : Int), (high : Int)))))
/-- slots: draws row most number ahead behind_it way far low -/
abbrev n_law_gap : List Str := ["draws", "row", "most", "number", "ahead", "behind_it", "way", "far", "low"]
def t_law_gap (K : PySem.W.Frag) : TS := (sFg (tSeq (tAsg (tCB cMax (tCons (tC (.int 1)) (tCons (tCall (sp_law_number K) [] E0 (tCons (tVar 0) (tCons (tVar 2) tNil))) tNil))) (gName 3))
  (tSeq (tAsg (tCall (sp_law_last K) [] E0 (tCons (tVar 1) (tCons (tOp oAdd (tVar 3) (tC (.int 1))) tNil))) (gName 4))
  (tSeq (tAsg (tCB cMin (tCons (tOp oAdd (tVar 2) (tC (.int 1))) (tCons (tCall (sp_law_next K) [] E0 (tCons (tVar 1) (tCons (tVar 3) tNil))) tNil))) (gName 5))
  (tSeq (tAsg (tIf (tTest (tOp oIsN (tVar 4) (tC .non))) (tC (.int 0)) (tVar 4)) (gName 4))
  (tSeq (tAsg (tCall (sp_law_take K) [] E0 (tCons (tVar 0) (tCons (tC (.int 12)) tNil))) (gName 6))
  (tSeq (tIfS (tTest (tOp rEq (tVar 6) (tC (.int 8)))) (tRet (tTup (tCons (tVar 3) (tCons (tCall (sp_law_number K) [] E0 (tCons (tVar 0) (tCons (tVar 2) tNil))) tNil)))) tNext)
  (tSeq (tIfS (tTest (tOp rEq (tVar 6) (tC (.int 9)))) (tRet (tTup (tCons (tCB cMax (tCons (tC (.int 1)) (tCons (tOp oSub (tVar 4) (tCall (sp_law_take K) [] E0 (tCons (tVar 0) (tCons (tC (.int 1000)) tNil)))) tNil))) (tCons (tCB cMin (tCons (tVar 2) (tCons (tOp oAdd (tVar 5) (tCall (sp_law_take K) [] E0 (tCons (tVar 0) (tCons (tC (.int 1000)) tNil)))) tNil))) tNil)))) tNext)
  (tSeq (tAsg (tOp oAdd (tOp oAdd (tOp oMul (tCall (sp_law_take K) [] E0 (tCons (tVar 0) (tCons (tC (.int 1000)) tNil))) (tOp oPow (tC (.int 10)) (tC (.int 9)))) (tOp oMul (tCall (sp_law_take K) [] E0 (tCons (tVar 0) (tCons (tC (.int 1000)) tNil))) (tOp oPow (tC (.int 10)) (tC (.int 4))))) (tCall (sp_law_take K) [] E0 (tCons (tVar 0) (tCons (tC (.int 1000)) tNil)))) (gName 7))
  (tSeq (tIfS (tTest (tOp rEq (tVar 6) (tC (.int 10)))) (tRet (tTup (tCons (tVar 3) (tCons (tOp oMod (tVar 7) (tVar 3)) tNil)))) tNext)
  (tSeq (tIfS (tTest (tOp rEq (tVar 4) (tVar 2))) (tRet (tTup (tCons (tVar 2) (tCons (tVar 2) tNil)))) tNext)
  (tSeq (tIfS (tTest (tOp oLt (tVar 6) (tC (.int 3)))) (tRet (tTup (tCons (tOp oAdd (tVar 4) (tC (.int 1))) (tCons (tCB cMin (tCons (tVar 2) (tCons (tCB cMax (tCons (tOp oAdd (tVar 4) (tC (.int 1))) (tCons (tOp oSub (tVar 5) (tC (.int 1))) tNil))) tNil))) tNil)))) tNext)
  (tSeq (tIfS (tTest (tOp rEq (tVar 6) (tC (.int 3)))) (tRet (tTup (tCons (tVar 3) (tCons (tCB cMin (tCons (tVar 2) (tCons (tOp oAdd (tVar 3) (tCall (sp_law_take K) [] E0 (tCons (tVar 0) (tCons (tC (.int 9)) tNil)))) tNil))) tNil)))) tNext)
  (tSeq (tIfS (tTest (tOp rEq (tVar 6) (tC (.int 4)))) (tRet (tTup (tCons (tCB cMax (tCons (tC (.int 1)) (tCons (tVar 4) tNil))) (tCons (tCB cMin (tCons (tVar 2) (tCons (tOp oSub (tVar 5) (tC (.int 1))) tNil))) tNil)))) tNext)
  (tSeq (tIfS (tTest (tOp rEq (tVar 6) (tC (.int 5)))) (tRet (tTup (tCons (tOp oAdd (tVar 4) (tC (.int 1))) (tCons (tCB cMin (tCons (tVar 2) (tCons (tVar 5) tNil))) tNil)))) tNext)
  (tSeq (tIfS (tTest (tOp rEq (tVar 6) (tC (.int 6)))) (tRet (tTup (tCons (tVar 3) (tCons (tOp oSub (tOp oSub (tVar 3) (tC (.int 1))) (tOp oMod (tCall (sp_law_take K) [] E0 (tCons (tVar 0) (tCons (tC (.int 9)) tNil))) (tVar 3))) tNil)))) tNext)
  (tSeq (tAsg (tOp oAdd (tOp oAdd (tVar 4) (tC (.int 1))) (tOp oMod (tVar 7) (tCB cMax (tCons (tC (.int 1)) (tCons (tOp oSub (tOp oSub (tVar 5) (tVar 4)) (tC (.int 1))) tNil))))) (gName 8))
  (tRet (tTup (tCons (tVar 8) (tCons (tCB cMin (tCons (tVar 2) (tCons (tCB cMax (tCons (tVar 8) (tCons (tOp oSub (tOp oSub (tVar 5) (tC (.int 1))) (tCall (sp_law_take K) [] E0 (tCons (tVar 0) (tCons (tC (.int 3)) tNil)))) tNil))) tNil))) tNil)))))))))))))))))))))
theorem g9 : (10 : Int) ^ (9 : Int).toNat = 1000000000 := rfl
theorem g4 : (10 : Int) ^ (4 : Int).toNat = 10000 := rfl
theorem r_law_gap {K : PySem.W.Frag} {vs : List V} {H : Hp} {Q : VK} {E : XK} (h : sp_law_gap K vs H Q E) : t_law_gap K { nx := fun _ H' => Q .non H', rt := Q } (start n_law_gap vs) H := by
  obtain ⟨nd, a, r, ds, row, m, rfl, ha, ok, sr, hra, w, hne, h5, hm1, hm2, q⟩ := h
  have o : Own (del H a) [(a, ds.map V.int)] H := .enter ha
  have sd : SqL K (del H a) r (zv row) := del_sq hra sr
  have g := w.good
  have fin : ∀ (lo hi : Int) (ds : List Int) (H' : Hp), DrOk ds → Own (del H a) [(a, ds.map V.int)] H' → 0 < lo ∧ lo < 2 ^ 59 ∧ 0 ≤ hi ∧ hi < 2 ^ 59 → ([V.int lo, .int hi].length ≤ sizeLine ∧ ∀ t, H' t = none → ∃ H'', Fg H (upd H' t (.tup [.int lo, .int hi])) H'' ∧ Q (.ref t) H'') := fun lo hi ds H' ok o hb => ⟨by show 2 ≤ sizeLine; decide, fun t ht => by
    obtain ⟨h0, hta, f⟩ := o.exitT (zs := [.int lo, .int hi]) ha 0 rfl ht
    obtain ⟨lo, rfl⟩ : ∃ n : Nat, lo = (n : Int) := ⟨lo.toNat, by omega⟩
    obtain ⟨hi, rfl⟩ : ∃ n : Nat, hi = (n : Int) := ⟨hi.toNat, by omega⟩
    exact ⟨_, f, q t lo hi ds hta h0 (by omega) (by omega) (by omega) ok⟩⟩
  refine fg_body (q_setW (w_cb (w_cons (w_c (w_one (w_callW (w_cons (w_v 0 (w_one (w_v 2 ?_)))))))))) 
  refine o.numberC 0 rfl ok (by omega) fun n0 ds H2 hn0 ok o => ?_
  replace o : Own (del H a) [(a, ds.map V.int)] H2 := o
  refine r_max ?_
  obtain ⟨n, en, hn1, hnm⟩ : ∃ n : Nat, (if (n0 : Int) > 1 then (n0 : Int) else 1) = (n : Int) ∧ 1 ≤ n ∧ n ≤ m := ⟨max 1 n0, by split <;> omega, by omega, by omega⟩
  rw [en]
  have hb12 : n ≤ 10 ^ 12 := by omega
  have hdl : (row.drop 1).length ≤ 4 := by rw [List.length_drop]; omega
  have f1 : Fits (row.drop 1) (n + 1 - 1) := .inl ⟨hdl, by omega⟩
  have f2 : Fits (row.drop 1) (n * 97) := .inl ⟨hdl, by omega⟩
  have n2 := o.nod
  have hl := lst_is (row := row) (n := n + 1) (by omega)
  have hlp := mk_pos g.ge hl.made
  have hll := hl.lt
  have hx := nxt_is g hne n
  have hxg := hx.gt
  have elast : lastV row (n + 1) = .int (lst row (n + 1) : Int) := if_neg (by omega)
  refine q_set (v := .int (lst row (n + 1) : Int)) (ev_eq (ev_call (v := lastV row (n + 1)) (ea_2 (ev_v 1) (ev_eq (y := .int ((n + 1 : Nat) : Int)) (ev_add (i := (n : Int)) (ev_v 3) ev_c) rfl)) fun Q q => ⟨n2, r, row, n + 1, rfl, o.sq sd, w, hne, f1, q⟩) elast) ?_
  refine q_set (ev_min (ev_add (i := (m : Int)) (ev_v 2) ev_c) (ev_call (v := .int (nxt row n : Int)) (ea_2 (ev_v 1) (ev_v 3)) fun Q q => ⟨n2, r, row, n, rfl, o.sq sd, w, hne, f2, by omega, q⟩)) ?_
  obtain ⟨be, ebe, hbe1, hbe2⟩ : ∃ be : Nat, (if (nxt row n : Int) < (m : Int) + 1 then (nxt row n : Int) else (m : Int) + 1) = (be : Int) ∧ n < be ∧ be ≤ m + 1 := ⟨min (nxt row n) (m + 1), by split <;> omega, by omega, by omega⟩
  rw [ebe]
  generalize lst row (n + 1) = A at hlp hll
  refine q_set (v := .int (A : Int)) (ev_if (b := false) (et_eq (et_t (ev_isN (x := .int (A : Int)) (ev_v 4))) (by simp)) (fun z => nomatch z) fun _ => ev_v 4) ?_
  refine q_setW (w_callW (w_cons (w_v 0 (w_one (w_c ?_)))))
  refine o.take 0 rfl ok (by omega) fun wy ds H3 hwy ok o => ?_
  replace o : Own (del H a) [(a, ds.map V.int)] H3 := o
  refine q_whenP (ep_eqi (ev_v 6) ev_c) (fun hw => ?_) fun _ => ?_
  · refine s_retW (w_tupW (w_cons (w_v 3 (w_one (w_callW (w_cons (w_v 0 (w_one (w_v 2 ?_)))))))))
    refine o.numberC 0 rfl ok (by omega) fun n1 ds H4 hn1 ok o => fin _ _ ds H4 ok o (by omega)
  refine q_whenP (ep_eqi (ev_v 6) ev_c) (fun hw => ?_) fun _ => ?_
  · refine s_retW (w_tupW (w_cons (w_cb (w_cons (w_c (w_one (w_op (w_v 4 (w_callW (w_cons (w_v 0 (w_one (w_c ?_)))))))))))))
    refine o.take 0 rfl ok (by omega) fun t1 ds H4 ht1 ok o => r_sub (r_max (w_one (w_cb (w_cons (w_v 2 (w_one (w_op (w_v 5 (w_callW (w_cons (w_v 0 (w_one (w_c ?_)))))))))))))
    refine o.take 0 rfl ok (by omega) fun t2 ds H5 ht2 ok o => r_add (r_min (fin _ _ ds H5 ok o ?_))
    refine ⟨by split <;> omega, by split <;> omega, by split <;> omega, by split <;> omega⟩
  refine q_setW (w_op (w_op (w_op (w_callW (w_cons (w_v 0 (w_one (w_c ?_))))))))
  refine o.take 0 rfl ok (by omega) fun t1 ds H4 ht1 ok o => ?_
  replace o : Own (del H a) [(a, ds.map V.int)] H4 := o
  refine w_ev (ev_pow ev_c ev_c (cp (by omega))) ?_
  rw [g9]
  refine r_mul (cm (by omega)) (w_op (w_callW (w_cons (w_v 0 (w_one (w_c ?_))))))
  refine o.take 0 rfl ok (by omega) fun t2 ds H5 ht2 ok o => ?_
  replace o : Own (del H a) [(a, ds.map V.int)] H5 := o
  refine w_ev (ev_pow ev_c ev_c (cp (by omega))) ?_
  rw [g4]
  refine r_mul (cm (by omega)) (r_add (w_callW (w_cons (w_v 0 (w_one (w_c ?_))))))
  refine o.take 0 rfl ok (by omega) fun t3 ds H6 ht3 ok o => r_add ?_
  replace o : Own (del H a) [(a, ds.map V.int)] H6 := o
  obtain ⟨far, efar, hfar⟩ : ∃ far : Nat, t1 * 1000000000 + t2 * 10000 + t3 = (far : Int) ∧ far < 2 ^ 58 := ⟨(t1 * 1000000000 + t2 * 10000 + t3).toNat, by omega, by omega⟩
  rw [efar]
  refine q_whenP (ep_eqi (ev_v 6) ev_c) (fun hw => ?_) fun _ => ?_
  · have := Nat.mod_lt far (show 0 < n by omega)
    exact s_retW (w_tupW (ea_2 (ev_v 3) (ev_eq (y := .int ((far % n : Nat) : Int)) (ev_mod (i := (far : Int)) (j := (n : Int)) (ev_v 7) (ev_v 3) (by omega)) (by simp)) _ (fin _ _ ds H6 ok o (by omega))))
  refine q_whenP (ep_eqi (i := (A : Int)) (j := (m : Int)) (ev_v 4) (ev_v 2)) (fun hw => ?_) fun hAm => ?_
  · exact s_retW (w_tupW (ea_2 (ev_v 2) (ev_v 2) _ (fin _ _ ds H6 ok o (by omega))))
  refine q_whenP (ep_lt (ev_v 6) ev_c) (fun hw => ?_) fun _ => ?_
  · refine s_retW (w_tupW (ea_2 (ev_add (i := (A : Int)) (ev_v 4) ev_c) (ev_min (i := (m : Int)) (ev_v 2) (ev_max (ev_add (i := (A : Int)) (ev_v 4) ev_c) (ev_sub (i := (be : Int)) (ev_v 5) ev_c))) _ (fin _ _ ds H6 ok o ?_)))
    refine ⟨by omega, by omega, ?_, ?_⟩ <;> (split <;> split <;> omega)
  refine q_whenP (ep_eqi (ev_v 6) ev_c) (fun hw => ?_) fun _ => ?_
  · refine s_retW (w_tupW (w_cons (w_v 3 (w_one (w_cb (w_cons (w_v 2 (w_one (w_op (w_v 3 (w_callW (w_cons (w_v 0 (w_one (w_c ?_)))))))))))))))
    refine o.take 0 rfl ok (by omega) fun t4 ds H7 ht4 ok o => r_add (r_min (fin _ _ ds H7 ok o ?_))
    refine ⟨by omega, by omega, by split <;> omega, by split <;> omega⟩
  refine q_whenP (ep_eqi (ev_v 6) ev_c) (fun hw => ?_) fun _ => ?_
  · refine s_retW (w_tupW (ea_2 (ev_max (j := (A : Int)) ev_c (ev_v 4)) (ev_min (i := (m : Int)) (ev_v 2) (ev_sub (i := (be : Int)) (ev_v 5) ev_c)) _ (fin _ _ ds H6 ok o ?_)))
    refine ⟨by split <;> omega, by split <;> omega, by split <;> omega, by split <;> omega⟩
  refine q_whenP (ep_eqi (ev_v 6) ev_c) (fun hw => ?_) fun _ => ?_
  · refine s_retW (w_tupW (ea_2 (ev_add (i := (A : Int)) (ev_v 4) ev_c) (ev_min (i := (m : Int)) (j := (be : Int)) (ev_v 2) (ev_v 5)) _ (fin _ _ ds H6 ok o ?_)))
    refine ⟨by omega, by omega, by split <;> omega, by split <;> omega⟩
  refine q_whenP (ep_eqi (ev_v 6) ev_c) (fun hw => ?_) fun _ => ?_
  · refine s_retW (w_tupW (w_cons (w_v 3 (w_one (w_op (w_ev (ev_sub (i := (n : Int)) (ev_v 3) ev_c) (w_op (w_callW (w_cons (w_v 0 (w_one (w_c ?_)))))))))))) 
    refine o.take 0 rfl ok (by omega) fun t4 ds H7 ht4 ok o => w_v (v := .int (n : Int)) 3 (r_mod (by omega) (r_sub (fin _ _ ds H7 ok o ?_)))
    have h1 := Int.emod_nonneg t4 (b := (n : Int)) (by omega)
    have h2 := Int.emod_lt_of_pos t4 (b := (n : Int)) (by omega)
    omega
  obtain ⟨bm, ebm, hbm1, hbm2⟩ : ∃ bm : Nat, (if (be : Int) - (A : Int) - 1 > 1 then (be : Int) - (A : Int) - 1 else 1) = (bm : Int) ∧ 0 < bm ∧ bm ≤ 10 ^ 12 + 1 := ⟨(if (be : Int) - (A : Int) - 1 > 1 then (be : Int) - (A : Int) - 1 else 1).toNat, by split <;> omega, by split <;> omega, by split <;> omega⟩
  have hfm := Nat.mod_lt far hbm1
  refine q_set (v := .int ((A + 1 + far % bm : Nat) : Int)) (ev_eq (ev_add (ev_add (i := (A : Int)) (ev_v 4) ev_c) (ev_mod (i := (far : Int)) (j := (bm : Int)) (ev_v 7) (ev_eq (ev_max ev_c (ev_sub (ev_sub (i := (be : Int)) (j := (A : Int)) (ev_v 5) (ev_v 4)) ev_c)) (by rw [ebm])) (by omega))) (by simp)) ?_
  refine s_retW (w_tupW (w_cons (w_v 8 (w_one (w_cb (w_cons (w_v 2 (w_one (w_cb (w_cons (w_v 8 (w_one (w_op (w_ev (ev_sub (i := (be : Int)) (ev_v 5) ev_c) (w_callW (w_cons (w_v 0 (w_one (w_c ?_)))))))))))))))))))
  refine o.take 0 rfl ok (by omega) fun t4 ds H7 ht4 ok o => r_sub (r_max (r_min (fin _ _ ds H7 ok o ?_)))
  refine ⟨by omega, by omega, ?_, ?_⟩ <;> (split <;> (try split) <;> omega)
theorem Own.gapC {K : PySem.W.Frag} {B H : Hp} {L : List (Addr × List V)} {p r : Addr} {ds : List Int} {row : List Nat} {m : Nat} {Q : VK} {E : XK} (o : Own B L H) (i : Nat) (h : L[i]? = some (p, ds.map V.int)) (ok : DrOk ds) (hr : SqL K H r (zv row)) (hrp : r ≠ p) (w : Rw row) (hne : row ≠ []) (h5 : row.length ≤ 5) (hm : 1 ≤ m ∧ m ≤ 10 ^ 12)
    (k : ∀ (t : Addr) (low high : Nat) (ds' : List Int) (H2 : Hp), 0 < low → low < 2 ^ 59 → high < 2 ^ 59 → DrOk ds' → H2 t = some (.tup (pvals ((low : Int), (high : Int)))) → Own B (L.set i (p, ds'.map V.int)) H2 → Q (.ref t) H2) : sp_law_gap K ([.ref p, .ref r, .int (m : Int)] ++ []) H Q E :=
  ⟨o.nod, p, r, ds, row, m, rfl, o.atI i h, ok, hr, hrp, w, hne, h5, hm.1, hm.2, fun t low high ds' htp ht h1 h2 h3 ok' => k t low high ds' _ h1 h2 h3 ok' upd_same ((o.mut i h).tup (by rw [upd_ne htp]; exact ht))⟩
end Px
set_option Elab.async false
set_option linter.all false
set_option maxRecDepth 100000
set_option maxHeartbeats 4000000
namespace Px
open PySem L2 MA
local macro_rules | `(tactic| bv_omega) => `(tactic| first | assumption | omega | exact cm (by omega) | exact cd (by omega) | exact cp (by omega) | exact trivial)
local macro_rules | `(tactic| array_get_dec) => `(tactic| first
  | assumption
  | exact sq_up
  | exact Own.sqi (by assumption) 0 (by rfl)
  | exact Own.sqi (by assumption) 1 (by rfl)
  | exact Own.sqi (by assumption) 2 (by rfl)
  | exact Own.sqi (by assumption) 3 (by rfl)
  | exact Own.sqi (by assumption) 4 (by rfl)
  | exact Own.sq (by assumption) (by assumption)
  | exact sq_new (by assumption) (by assumption))
local macro_rules | `(tactic| clean_wf) => `(tactic| first
  | with_reducible exact ev_c
  | (with_reducible apply ev_v') <;> rfl
  | (with_reducible apply ev_add) <;> clean_wf
  | (with_reducible apply ev_sub) <;> clean_wf
  | (with_reducible apply ev_mul) <;> clean_wf
  | (with_reducible apply ev_mod) <;> clean_wf
  | (with_reducible apply ev_div) <;> clean_wf
  | (with_reducible apply ev_pow) <;> clean_wf
  | (with_reducible apply ev_neg) <;> clean_wf
  | (with_reducible apply ev_lt) <;> clean_wf
  | (with_reducible apply ev_le) <;> clean_wf
  | (with_reducible apply ev_gt) <;> clean_wf
  | (with_reducible apply ev_ge) <;> clean_wf
  | (with_reducible apply ev_eqi) <;> clean_wf
  | (with_reducible apply ev_nei) <;> clean_wf
  | (with_reducible apply ev_len) <;> clean_wf
  | (with_reducible apply ev_ixL) <;> clean_wf
  | (with_reducible apply ev_min) <;> clean_wf
  | (with_reducible apply ev_max) <;> clean_wf
  | (with_reducible apply ev_abs) <;> clean_wf
  | (with_reducible apply ev_intB) <;> clean_wf
  | (with_reducible apply ea_1) <;> clean_wf
  | (with_reducible apply ea_2) <;> clean_wf
  | (with_reducible apply ea_3) <;> clean_wf
  | with_reducible exact ea_nil
  | (with_reducible apply ea_cons) <;> clean_wf
  | with_reducible exact el_nil
  | (with_reducible apply ep_lt) <;> clean_wf
  | (with_reducible apply ep_le) <;> clean_wf
  | (with_reducible apply ep_gt) <;> clean_wf
  | (with_reducible apply ep_ge) <;> clean_wf
  | (with_reducible apply ep_eqi) <;> clean_wf
  | (with_reducible apply ep_nei) <;> clean_wf
  | (with_reducible apply ep_not) <;> clean_wf
  | ((with_reducible apply ep_and) <;> first | (intro _; clean_wf; done) | clean_wf)
  | ((with_reducible apply ep_or) <;> first | (intro _; clean_wf; done) | clean_wf)
  | (with_reducible apply et_t) <;> clean_wf
  | (with_reducible apply eo_is) <;> clean_wf
  | with_reducible exact eo_no
  | array_get_dec
  | bv_omega
  | rfl
  | skip)
local macro_rules | `(tactic| symm_saturate) => `(tactic| first
  | ((with_reducible apply q_set); (focus (clean_wf; done)))
  | ((with_reducible apply s_set); (focus (clean_wf; done)))
  | ((with_reducible apply q_aug (hx := rfl)); (focus (clean_wf; done)))
  | ((with_reducible apply s_aug (hx := rfl)); (focus (clean_wf; done)))
  | ((with_reducible apply q_augC (hx := rfl)); (focus (clean_wf; done)))
  | ((with_reducible apply s_augC (hx := rfl)); (focus (clean_wf; done))))
local macro_rules | `(tactic| subst_eqs) => `(tactic| repeat' (first
  | with_reducible apply w_c
  | ((with_reducible apply w_v'); (focus rfl))
  | with_reducible apply w_op
  | with_reducible apply w_cb
  | with_reducible apply w_cons
  | with_reducible apply w_nil
  | with_reducible apply r_add
  | with_reducible apply r_sub
  | ((with_reducible apply r_mul); (focus (bv_omega; done)))
  | ((with_reducible apply r_div); (focus (bv_omega; done)))
  | ((with_reducible apply r_mod); (focus (bv_omega; done)))
  | ((with_reducible apply r_pow); (focus (bv_omega; done)))
  | with_reducible apply r_lt
  | with_reducible apply r_le
  | with_reducible apply r_gt
  | with_reducible apply r_ge
  | with_reducible apply r_min
  | with_reducible apply r_max
  | with_reducible apply r_intB
  | ((with_reducible apply r_len); (focus (array_get_dec; done)))
  | with_reducible apply w_callW
  | with_reducible apply q_setW
  | with_reducible apply s_setW
  | with_reducible apply s_retW))

/-- a list that is no longer one's own is changed -/
theorem Own.poke {B H : Hp} {L : List (Addr × List V)} {p : Addr} {ys : List V} (o : Own B L H) (h0 : B p = none) (hp : ∀ q ∈ L, q.1 ≠ p) : Own B L (upd H p (.lst ys)) where
  nod := have := o.nod; inferInstance
  ex := fun b u hb => by rw [upd_ne (fun e => by rw [e, h0] at hb; cases hb)]; exact o.ex b u hb
  off := o.off
  dis := o.dis
  has := fun q hq => by rw [upd_ne (hp q hq)]; exact o.has q hq
/-! ### the right paper, by the law -/
def sp_law_right_paper (K : PySem.W.Frag) : Sp := fun vs H Q _ => Nod H ∧ ∃ (a : Addr) (p : Nat) (r : List Nat) (low high : Nat), vs = [.ref a, .int (low : Int), .int (high : Int)] ∧ RowAt H a (p :: r) ∧ PapIn p r low high ∧
  (¬ PapOk p r low high → Q .non H) ∧ (PapOk p r low high → PapAt H (ppr p r low high) Q)
/-- slots: row low high found rest power here -/
abbrev n_law_right_paper : List Str := ["row", "low", "high", "found", "rest", "power", "here"]
def t_law_right_paper (K : PySem.W.Frag) : TS := (sFg (tSeq (tIfS (tTest (tOp oGt (tVar 1) (tVar 2))) (tRet (tLst tNil)) tNext)
  (tSeq (tAsg (tLst tNil) (gName 3))
  (tSeq (tFor (iList K (tCall (sp_law_made K) [] E0 (tCons (tSl (rSlL K) (tVar 0) (tPart (tC (.int 1))) tNoPart) (tCons (tVar 2) tNil)))) (gName 4) (tSeq (tAsg (tUn uNeg (tC (.int 1))) (gName 5))
  (tSeq (tAsg (tVar 4) (gName 6))
  (tSeq (tWhile (tTest (tOp oLt (tVar 6) (tVar 1))) (tSeq (tAsg (tOp oMul (tVar 6) (tOp (rIxL K) (tVar 0) (tC (.int 0)))) (gName 6))
  (tAsg (tOp oAdd (tVar 5) (tC (.int 1))) (gName 5))))
  (tSeq (tIfS (tTest (tOp oLe (tVar 6) (tVar 2))) (tRet (tC .non)) tNext)
  (tDrop (tBM K "list" rAppend (tVar 3) (tCons (tTup (tCons (tVar 4) (tCons (tVar 5) tNil))) tNil))))))))
  (tRet (tVar 3))))))
theorem r_law_right_paper {K : PySem.W.Frag} {vs : List V} {H : Hp} {Q : VK} {E : XK} (h : sp_law_right_paper K vs H Q E) : t_law_right_paper K { nx := fun _ H' => Q .non H', rt := Q } (start n_law_right_paper vs) H := by
  obtain ⟨nd, a, p, r, low, high, rfl, ra, i, q1, q2⟩ := h
  have hp := i.w.ge (p := p) List.mem_cons_self
  have g := i.w.good
  have hl0 := i.low0
  have hl1 := i.low1
  have hh1 := i.high1
  have o : Own H [] H := Own.nil
  refine fg_body (q_whenP (ep_gt (i := (low : Int)) (j := (high : Int)) (ev_v 1) (ev_v 2)) (fun hc => ?_) fun hc => ?_)
  · have e : ppr p r low high = [] := if_pos (by omega)
    rw [e] at q2
    exact s_retL el_nil fun p1 hp1 => ⟨_, fg_newL hp1 (ex_new hp1) upd_same, q2 (pap_over (by omega)) p1 [] _ hp1 (fun _ h => (List.not_mem_nil h).elim) (ex_new hp1) inferInstance (.nil upd_same)⟩
  have e : ppr p r low high = (allL r high).map fun (x : Nat) => ((x : Int), (tn p x low : Int) - 1) := if_neg (by omega)
  have hpi := pap_iff (p := p) (r := r) (low := low) (high := high) g hl0
  rw [e] at q2
  refine q_setL el_nil fun pf hpf => ?_
  replace o : Own H [(pf, [])] _ := o.new hpf
  refine q_seq (w_forL (w_madeR o rfl (o.sq ra.sq) i.w i.fits (.inl rfl) (fun H1 => ev_v 2) fun p1 H2 o => ⟨p1, rfl, ⟨_, o.sqi 0 rfl⟩, ?_⟩))
  have hall : ∀ x ∈ allL r high, 0 < x ∧ x ≤ high := fun x hx => ⟨mk_pos i.w.tail.good.ge (allL_mem.mp hx).1, (allL_mem.mp hx).2⟩
  have hlen : (allL r high).length ≤ 9000000 := i.w.tail.fit i.fits
  generalize allL r high = l at o q2 hall hlen hpi
  refine lp_list (xs := zv l) (fun j σ' H' => ∃ (B' : Hp) (as : List Addr) (y4 y5 y6 : Option V), σ' = [some (.ref a), some (.int (low : Int)), some (.int (high : Int)), some (.ref pf), y4, y5, y6] ∧ Ex H B' ∧ Own B' [(p1, zv l), (pf, as.map V.ref)] H' ∧ as.length = j ∧ (∀ b ∈ as, H b = none) ∧ (∀ (k : Nat) (b : Addr) (x : Nat), as[k]? = some b → l[k]? = some x → B' b = some (.tup (pvals ((x : Int), (tn p x low : Int) - 1)))) ∧ ∀ x ∈ l.take j, high < x * p ^ tn p x low)
    ⟨H, [], none, none, none, rfl, ex_refl, o, rfl, (fun _ h => (List.not_mem_nil h).elim), (fun k b x h => by simp at h), by simp⟩ (fun j σ' H' _ hv => ?_) (fun j v σ' H' hx0 hv => ?_) fun σ' H' hv => ?_
  · obtain ⟨_, _, _, _, _, _, _, o, _⟩ := hv
    exact o.sqi 0 rfl
  · clear o
    obtain ⟨B', as, y4, y5, y6, rfl, eB, o, hal, hnew, htup, hfar⟩ := hv
    obtain ⟨x, hx, rfl⟩ := zv_some hx0
    have hxb := hall x (List.mem_of_getElem? hx)
    have ra' := ra.ex (ex_trans eB o.ex)
    have hbd := tn_bound (p := p) hp.1 hl0 hxb.1
    have hlp : low * p ≤ 2 ^ 60 * 97 := Nat.mul_le_mul (by omega) hp.2
    have etake : l.take (j + 1) = l.take j ++ [x] := by rw [List.take_add_one, hx]; rfl
    refine q_set (ev_neg ev_c) (q_set (ev_v 4) (q_whileP (fun m σ' H'' => ∃ (k : Nat), σ' = [some (.ref a), some (.int (low : Int)), some (.int (high : Int)), some (.ref pf), some (.int (x : Int)), some (.int ((k : Int) - 1)), some (.int ((x * p ^ k : Nat) : Int))] ∧ H'' = H' ∧ m = tn p x low - k ∧ k ≤ tn p x low) (tn p x low) ⟨0, by simp, rfl, by simp, by omega⟩ (fun m σ' H'' hw => ?_)))
    obtain ⟨k, rfl, rfl, rfl, hk⟩ := hw
    refine ⟨_, ep_lt (i := ((x * p ^ k : Nat) : Int)) (j := (low : Int)) (ev_v 6) (ev_v 1), fun hc => ?_, fun hc => ?_⟩
    · have hkt : k < tn p x low := by
        rcases Nat.lt_or_ge k (tn p x low) with z | z
        · exact z
        · have hke : k = tn p x low := by omega
          have := tn_ge (p := p) (x := x) hp.1 hl0 hxb.1
          rw [← hke] at this
          omega
      refine q_set (ev_mul (ev_v 6) (ev_ixL (i := 0) (v := .int (p : Int)) (ev_v 0) ev_c ra'.sq zv_0) (cm (by omega))) (s_set (ev_add (i := (k : Int) - 1) (ev_v 5) ev_c) ⟨tn p x low - (k + 1), by omega, k + 1, ?_, rfl, rfl, by omega⟩)
      rw [Nat.pow_succ, ← Nat.mul_assoc, Int.natCast_mul (x * p ^ k) p]
      show [some (V.ref a), some (V.int (low : Int)), some (V.int (high : Int)), some (V.ref pf), some (V.int (x : Int)), some (V.int ((k : Int) - 1 + 1)), some (V.int (((x * p ^ k : Nat) : Int) * (p : Int)))] = _
      rw [show (k : Int) - 1 + 1 = ((k + 1 : Nat) : Int) - 1 by omega]
    · have hke : k = tn p x low := by
        rcases Nat.lt_or_ge k (tn p x low) with z | z
        · have := tn_lt (p := p) (x := x) hp.1 hl0 hxb.1 z
          omega
        · omega
      subst hke
      refine q_whenP (ep_le (i := ((x * p ^ tn p x low : Nat) : Int)) (j := (high : Int)) (ev_v 6) (ev_v 2)) (fun hle => ?_) fun hle => ?_
      · refine s_ret ev_c ⟨H, fg_same (ex_trans eB o.ex), q1 fun z => ?_⟩
        have := hpi.mp z x (List.mem_of_getElem? hx)
        omega
      · refine s_dropW (w_appR (ev_v 3) (o.sqi 1 rfl) (w_one (w_tupW (ea_2 (ev_v 4) (ev_v 5) _ ⟨by show 2 ≤ sizeLine; decide, fun t ht => ?_⟩))))
        have o2 := o.tupB (xs := pvals ((x : Int), (tn p x low : Int) - 1)) ht
        have htB : B' t = none := ex_none o.ex ht
        have hlt := (List.getElem?_eq_some_iff.mp hx).1
        refine ⟨pf, as.map V.ref, _, rfl, rfl, o2.atI 1 rfl, ?_, ?_⟩
        · rw [List.length_map]
          exact szl (by omega)
        refine ⟨upd B' t (.tup (pvals ((x : Int), (tn p x low : Int) - 1))), as ++ [t], _, _, _, rfl, ex_trans eB (ex_new htB), ?_, by simp [hal], fun b hb => ?_, fun k b y h1 h2 => ?_, fun y hy => ?_⟩
        · have := o2.mut (ys := (as ++ [t]).map V.ref) 1 rfl
          rw [show as.map V.ref ++ [V.ref t] = (as ++ [t]).map V.ref by simp]
          exact this
        · rcases List.mem_append.mp hb with hb | hb
          · exact hnew b hb
          · rw [List.mem_singleton.mp hb]; exact ex_none eB htB
        · rcases Nat.lt_or_ge k as.length with z | z
          · rw [List.getElem?_append_left z] at h1
            have := htup k b y h1 h2
            rw [upd_ne (fun w => by rw [w, htB] at this; cases this)]
            exact this
          · rw [List.getElem?_append_right z] at h1
            have hk : k - as.length = 0 := by
              rcases Nat.eq_zero_or_pos (k - as.length) with y | y
              · exact y
              · rw [List.getElem?_eq_none (by simp; omega)] at h1; cases h1
            rw [hk] at h1
            cases h1
            have : k = j := by omega
            subst this
            rw [hx] at h2
            cases h2
            exact upd_same
        · rw [etake] at hy
          rcases List.mem_append.mp hy with hy | hy
          · exact hfar y hy
          · rw [List.mem_singleton.mp hy]; omega
  · obtain ⟨B', as, y4, y5, y6, rfl, eB, o, hal, hnew, htup, hfar⟩ := hv
    rw [zv_len] at hal hfar
    rw [List.take_length] at hfar
    have hpr : Prs H' pf as (l.map fun (x : Nat) => ((x : Int), (tn p x low : Int) - 1)) := ⟨o.atI 1 rfl, by rw [List.length_map]; exact hal, fun k b q h1 h2 => by
      rw [List.getElem?_map] at h2
      cases e : l[k]? with
      | none => rw [e] at h2; cases h2
      | some x =>
        rw [e] at h2
        cases h2
        exact o.ex _ _ (htup k b x h1 e)⟩
    have hS : ∀ b ∈ pf :: as, H b = none ∧ ∃ u, fresh u ∧ H' b = some u := fun b hb => ⟨by
      rcases List.mem_cons.mp hb with rfl | hb
      · exact hpf
      · exact hnew b hb, hpr.all b hb⟩
    exact s_ret (ev_v 3) ⟨_, fg_keepS (ex_trans eB o.ex) hS, q2 (hpi.mpr hfar) pf as _ hpf hnew (keepS_ex fun b hb => (hS b hb).1) (keepS_nod fun b hb => (hS b hb).2) (hpr.keep List.mem_cons_self fun b hb => List.mem_cons_of_mem _ hb)⟩
/-- each rest with its power, whether something lies between or not -/
noncomputable def every (p : Nat) (r : List Nat) (low high : Nat) : List (Int × Int) := (allL r high).map fun (x : Nat) => ((x : Int), (tn p x low : Int) - 1)
/-- a paper that was just made; all that is new is plain -/
def PapF (H : Hp) (qs : List (Int × Int)) (Q : VK) : Prop := ∀ (p1 : Addr) (as : List Addr) (H' : Hp), H p1 = none → (∀ b ∈ as, H b = none) → Ex H H' → Nod H' → (∀ b u, H b = none → H' b = some u → fresh u) → Prs H' p1 as qs → Q (.ref p1) H'
def sp_law_all (K : PySem.W.Frag) : Sp := fun vs H Q _ => Nod H ∧ ∃ (a : Addr) (p : Nat) (r : List Nat) (low high : Nat), vs = [.ref a, .int (low : Int), .int (high : Int)] ∧ RowAt H a (p :: r) ∧ PapIn p r low high ∧ PapF H (every p r low high) Q
/-- slots: row low high found rest power here -/
abbrev n_law_all : List Str := ["row", "low", "high", "found", "rest", "power", "here"]
def t_law_all (K : PySem.W.Frag) : TS := (sFg (tSeq (tAsg (tLst tNil) (gName 3))
  (tSeq (tFor (iList K (tCall (sp_law_made K) [] E0 (tCons (tSl (rSlL K) (tVar 0) (tPart (tC (.int 1))) tNoPart) (tCons (tVar 2) tNil)))) (gName 4) (tSeq (tAsg (tUn uNeg (tC (.int 1))) (gName 5))
  (tSeq (tAsg (tVar 4) (gName 6))
  (tSeq (tWhile (tTest (tOp oLt (tVar 6) (tVar 1))) (tSeq (tAsg (tOp oMul (tVar 6) (tOp (rIxL K) (tVar 0) (tC (.int 0)))) (gName 6))
  (tAsg (tOp oAdd (tVar 5) (tC (.int 1))) (gName 5))))
  (tDrop (tBM K "list" rAppend (tVar 3) (tCons (tTup (tCons (tVar 4) (tCons (tVar 5) tNil))) tNil)))))))
  (tRet (tVar 3)))))
theorem r_law_all {K : PySem.W.Frag} {vs : List V} {H : Hp} {Q : VK} {E : XK} (h : sp_law_all K vs H Q E) : t_law_all K { nx := fun _ H' => Q .non H', rt := Q } (start n_law_all vs) H := by
  obtain ⟨nd, a, p, r, low, high, rfl, ra, i, q2⟩ := h
  have hp := i.w.ge (p := p) List.mem_cons_self
  have g := i.w.good
  have hl0 := i.low0
  have hl1 := i.low1
  have hh1 := i.high1
  have o : Own H [] H := Own.nil
  refine fg_body ?_
  unfold every at q2
  refine q_setL el_nil fun pf hpf => ?_
  replace o : Own H [(pf, [])] _ := o.new hpf
  refine q_seq (w_forL (w_madeR o rfl (o.sq ra.sq) i.w i.fits (.inl rfl) (fun H1 => ev_v 2) fun p1 H2 o => ⟨p1, rfl, ⟨_, o.sqi 0 rfl⟩, ?_⟩))
  have hall : ∀ x ∈ allL r high, 0 < x ∧ x ≤ high := fun x hx => ⟨mk_pos i.w.tail.good.ge (allL_mem.mp hx).1, (allL_mem.mp hx).2⟩
  have hlen : (allL r high).length ≤ 9000000 := i.w.tail.fit i.fits
  generalize allL r high = l at o q2 hall hlen
  refine lp_list (xs := zv l) (fun j σ' H' => ∃ (B' : Hp) (as : List Addr) (y4 y5 y6 : Option V), σ' = [some (.ref a), some (.int (low : Int)), some (.int (high : Int)), some (.ref pf), y4, y5, y6] ∧ Ex H B' ∧ Own B' [(p1, zv l), (pf, as.map V.ref)] H' ∧ as.length = j ∧ (∀ b ∈ as, H b = none) ∧ (∀ (k : Nat) (b : Addr) (x : Nat), as[k]? = some b → l[k]? = some x → B' b = some (.tup (pvals ((x : Int), (tn p x low : Int) - 1)))))
    ⟨H, [], none, none, none, rfl, ex_refl, o, rfl, (fun _ h => (List.not_mem_nil h).elim), (fun k b x h => by simp at h)⟩ (fun j σ' H' _ hv => ?_) (fun j v σ' H' hx0 hv => ?_) fun σ' H' hv => ?_
  · obtain ⟨_, _, _, _, _, _, _, o, _⟩ := hv
    exact o.sqi 0 rfl
  · clear o
    obtain ⟨B', as, y4, y5, y6, rfl, eB, o, hal, hnew, htup⟩ := hv
    obtain ⟨x, hx, rfl⟩ := zv_some hx0
    have hxb := hall x (List.mem_of_getElem? hx)
    have ra' := ra.ex (ex_trans eB o.ex)
    have hbd := tn_bound (p := p) hp.1 hl0 hxb.1
    have hlp : low * p ≤ 2 ^ 60 * 97 := Nat.mul_le_mul (by omega) hp.2
    refine q_set (ev_neg ev_c) (q_set (ev_v 4) (q_whileP (fun m σ' H'' => ∃ (k : Nat), σ' = [some (.ref a), some (.int (low : Int)), some (.int (high : Int)), some (.ref pf), some (.int (x : Int)), some (.int ((k : Int) - 1)), some (.int ((x * p ^ k : Nat) : Int))] ∧ H'' = H' ∧ m = tn p x low - k ∧ k ≤ tn p x low) (tn p x low) ⟨0, by simp, rfl, by simp, by omega⟩ (fun m σ' H'' hw => ?_)))
    obtain ⟨k, rfl, rfl, rfl, hk⟩ := hw
    refine ⟨_, ep_lt (i := ((x * p ^ k : Nat) : Int)) (j := (low : Int)) (ev_v 6) (ev_v 1), fun hc => ?_, fun hc => ?_⟩
    · have hkt : k < tn p x low := by
        rcases Nat.lt_or_ge k (tn p x low) with z | z
        · exact z
        · have hke : k = tn p x low := by omega
          have := tn_ge (p := p) (x := x) hp.1 hl0 hxb.1
          rw [← hke] at this
          omega
      refine q_set (ev_mul (ev_v 6) (ev_ixL (i := 0) (v := .int (p : Int)) (ev_v 0) ev_c ra'.sq zv_0) (cm (by omega))) (s_set (ev_add (i := (k : Int) - 1) (ev_v 5) ev_c) ⟨tn p x low - (k + 1), by omega, k + 1, ?_, rfl, rfl, by omega⟩)
      rw [Nat.pow_succ, ← Nat.mul_assoc, Int.natCast_mul (x * p ^ k) p]
      show [some (V.ref a), some (V.int (low : Int)), some (V.int (high : Int)), some (V.ref pf), some (V.int (x : Int)), some (V.int ((k : Int) - 1 + 1)), some (V.int (((x * p ^ k : Nat) : Int) * (p : Int)))] = _
      rw [show (k : Int) - 1 + 1 = ((k + 1 : Nat) : Int) - 1 by omega]
    · have hke : k = tn p x low := by
        rcases Nat.lt_or_ge k (tn p x low) with z | z
        · have := tn_lt (p := p) (x := x) hp.1 hl0 hxb.1 z
          omega
        · omega
      subst hke
      refine s_dropW (w_appR (ev_v 3) (o.sqi 1 rfl) (w_one (w_tupW (ea_2 (ev_v 4) (ev_v 5) _ ⟨by show 2 ≤ sizeLine; decide, fun t ht => ?_⟩))))
      have o2 := o.tupB (xs := pvals ((x : Int), (tn p x low : Int) - 1)) ht
      have htB : B' t = none := ex_none o.ex ht
      have hlt := (List.getElem?_eq_some_iff.mp hx).1
      refine ⟨pf, as.map V.ref, _, rfl, rfl, o2.atI 1 rfl, ?_, ?_⟩
      · rw [List.length_map]
        exact szl (by omega)
      refine ⟨upd B' t (.tup (pvals ((x : Int), (tn p x low : Int) - 1))), as ++ [t], _, _, _, rfl, ex_trans eB (ex_new htB), ?_, by simp [hal], fun b hb => ?_, fun k b y h1 h2 => ?_⟩
      · have := o2.mut (ys := (as ++ [t]).map V.ref) 1 rfl
        rw [show as.map V.ref ++ [V.ref t] = (as ++ [t]).map V.ref by simp]
        exact this
      · rcases List.mem_append.mp hb with hb | hb
        · exact hnew b hb
        · rw [List.mem_singleton.mp hb]; exact ex_none eB htB
      · rcases Nat.lt_or_ge k as.length with z | z
        · rw [List.getElem?_append_left z] at h1
          have := htup k b y h1 h2
          rw [upd_ne (fun w => by rw [w, htB] at this; cases this)]
          exact this
        · rw [List.getElem?_append_right z] at h1
          have hk : k - as.length = 0 := by
            rcases Nat.eq_zero_or_pos (k - as.length) with y | y
            · exact y
            · rw [List.getElem?_eq_none (by simp; omega)] at h1; cases h1
          rw [hk] at h1
          cases h1
          have : k = j := by omega
          subst this
          rw [hx] at h2
          cases h2
          exact upd_same
  · obtain ⟨B', as, y4, y5, y6, rfl, eB, o, hal, hnew, htup⟩ := hv
    rw [zv_len] at hal
    have hpr : Prs H' pf as (l.map fun (x : Nat) => ((x : Int), (tn p x low : Int) - 1)) := ⟨o.atI 1 rfl, by rw [List.length_map]; exact hal, fun k b q h1 h2 => by
      rw [List.getElem?_map] at h2
      cases e : l[k]? with
      | none => rw [e] at h2; cases h2
      | some x =>
        rw [e] at h2
        cases h2
        exact o.ex _ _ (htup k b x h1 e)⟩
    have hS : ∀ b ∈ pf :: as, H b = none ∧ ∃ u, fresh u ∧ H' b = some u := fun b hb => ⟨by
      rcases List.mem_cons.mp hb with rfl | hb
      · exact hpf
      · exact hnew b hb, hpr.all b hb⟩
    refine s_ret (ev_v 3) ⟨_, fg_keepS (ex_trans eB o.ex) hS, q2 pf as _ hpf hnew (keepS_ex fun b hb => (hS b hb).1) (keepS_nod fun b hb => (hS b hb).2) (fun b u h0 h1 => ?_) (hpr.keep List.mem_cons_self fun b hb => List.mem_cons_of_mem _ hb)⟩
    by_cases z : b ∈ pf :: as
    · rw [keepS_in z] at h1
      obtain ⟨u', fu, e⟩ := (hS b z).2
      rw [e] at h1; cases h1; exact fu
    · rw [keepS_off z, h0] at h1; cases h1
end Px
set_option Elab.async false
set_option linter.all false
set_option maxRecDepth 100000
set_option maxHeartbeats 4000000
namespace Px
open PySem PySem.Spec PyProof.Rows L2
/-! ### ValueError('..') as a thing -/
def veH (a : Addr) : HO := .ext fun h => PySem.W.KitAt a "ValueError" h
def tVE : TE := fun _ H Q => ∀ a, H a = none → Q (.ref a) (upd H a (veH a))
section
variable {X : Cx}
theorem pe_ve {m : Str} {j : Nat} {p p2 pos : Pos} (hm : X.mg "ValueError" = none) (hg : Gl X "ValueError" := by rfl) : PE X (.Call (.Name "ValueError" p) [.Constant (.str m) j p2] [] pos) tVE := by
  refine ⟨fun pins s σ H Q J h => ?_⟩
  have ha : PA X [.Constant (.str m) j p2] (tCons (tC (.str m)) tNil) := pa_cons pe_str pa_nil
  refine wpAny_Call_Name_kw (ld_blt J hg hm boot_ValueError ?_ (by decide) (by decide))
  refine PyProof.Rows.callWith_type1 (thn (ha.run pos pins s σ H (fun vs H1 => vs = [V.str m] ∧ H = H1) J ⟨rfl, rfl⟩) fun us s1 hh => ?_) rfl rfl
  obtain ⟨vs, H1, I1, r1, ev, eH⟩ := hh
  subst ev
  subst eH
  obtain ⟨hp1, g1, d1, tk1, os1⟩ := s1
  refine wpAny_call_exc exb_ValueError.call (fun h' a mk => ?_) (by rw [← r1.length]; show 1 ≤ sizeLine; rw [sizeLine_eq]; omega)
  have hx := PySem.Heap.MadeExc.of mk
  have hn : H a = none := I1.hok.gone mk.new
  obtain ⟨t, ht, _, _⟩ := hx.there
  refine ⟨.ref a, upd H a (veH a), I1.laidN hx.keeps hx.new hn ⟨⟨_, ht, rfl⟩, ⟨_, ht⟩, fun h1 h2 ⟨o, e1, e2⟩ k => ⟨o, k o e1, e2⟩⟩, rfl, h a hn⟩
end
/-- what isinstance may be asked of -/
def TyW (K : PySem.W.Frag) (H : Hp) (v : V) (t : Value) : Prop := TyX K H v t ∨ ∃ a, v = .ref a ∧ H a = some (veH a) ∧ t = .type "ValueError"
def rIsW (K : PySem.W.Frag) : List V → Hp → VK → Prop := fun xs H Q => ∃ (x c : V) (t u : Value) (b : Bool), xs = [x, c] ∧ ClsV c u ∧ TyW K H x t ∧ PySem.W.kitOne K t u = some b ∧ Q (.bl b) H
theorem call_isW {X : Cx} : CallR X (.builtin "isinstance") (rIsW X.K) := by
  intro pins s σ H xs us Q I r h
  obtain ⟨x, c, t, u, b, rfl, k, ty, e, q⟩ := h
  rcases ty with ty | ⟨a, rfl, ha, rfl⟩
  · exact call_isi pins s σ H _ us Q I r ⟨x, c, t, u, b, rfl, k, ty, e, q⟩
  · obtain ⟨u1, u2, rfl, r1, r2⟩ := vals2 r
    have e2 := k.eq r2
    subst e2
    cases (show u1 = Value.ref a from r1)
    obtain ⟨J, _⟩ := (show ObjOk X.prog X.w H s.heap a (veH a) from I.hok a _ ha)
    exact PySem.W.kia_one (PySem.W.kitx_bexc PySem.F.excAttr_ValueError (by kernel_rfl) (by kernel_rfl) (by decide)) I.kIn J e (fun z => nomatch z) fun tk => ⟨.bl b, H, I.tok tk, rfl, q⟩
theorem ev_isW {K : PySem.W.Frag} {σ : L2.St} {H : Hp} {ta tb : TE} {x c : V} {t0 u0 : Value} {b : Bool} (ha : Ev ta σ H x) (hb : Ev tb σ H c) (k : ClsV c u0) (ty : TyW K H x t0) (e : PySem.W.kitOne K t0 u0 = some b) : Ev (tCB (rIsW K) (tCons ta (tCons tb tNil))) σ H (.bl b) := ev_cb (ea_2 ha hb) fun _ q => ⟨x, c, t0, u0, b, rfl, k, ty, e, q⟩
end Px
set_option Elab.async false
set_option linter.all false
set_option maxRecDepth 100000
set_option maxHeartbeats 4000000
namespace Px
open PySem PySem.Spec PyProof.Rows L2 MA
local macro_rules | `(tactic| bv_omega) => `(tactic| first | assumption | omega | exact cm (by omega) | exact cd (by omega) | exact cp (by omega) | exact trivial)
local macro_rules | `(tactic| array_get_dec) => `(tactic| first
  | assumption
  | exact sq_up
  | exact Own.sqi (by assumption) 0 (by rfl)
  | exact Own.sqi (by assumption) 1 (by rfl)
  | exact Own.sqi (by assumption) 2 (by rfl)
  | exact Own.sqi (by assumption) 3 (by rfl)
  | exact Own.sqi (by assumption) 4 (by rfl)
  | exact Own.sq (by assumption) (by assumption)
  | exact sq_new (by assumption) (by assumption))
local macro_rules | `(tactic| clean_wf) => `(tactic| first
  | with_reducible exact ev_c
  | (with_reducible apply ev_v') <;> rfl
  | (with_reducible apply ev_add) <;> clean_wf
  | (with_reducible apply ev_sub) <;> clean_wf
  | (with_reducible apply ev_mul) <;> clean_wf
  | (with_reducible apply ev_mod) <;> clean_wf
  | (with_reducible apply ev_div) <;> clean_wf
  | (with_reducible apply ev_pow) <;> clean_wf
  | (with_reducible apply ev_neg) <;> clean_wf
  | (with_reducible apply ev_lt) <;> clean_wf
  | (with_reducible apply ev_le) <;> clean_wf
  | (with_reducible apply ev_gt) <;> clean_wf
  | (with_reducible apply ev_ge) <;> clean_wf
  | (with_reducible apply ev_eqi) <;> clean_wf
  | (with_reducible apply ev_nei) <;> clean_wf
  | (with_reducible apply ev_len) <;> clean_wf
  | (with_reducible apply ev_ixL) <;> clean_wf
  | (with_reducible apply ev_min) <;> clean_wf
  | (with_reducible apply ev_max) <;> clean_wf
  | (with_reducible apply ev_abs) <;> clean_wf
  | (with_reducible apply ev_intB) <;> clean_wf
  | (with_reducible apply ea_1) <;> clean_wf
  | (with_reducible apply ea_2) <;> clean_wf
  | (with_reducible apply ea_3) <;> clean_wf
  | with_reducible exact ea_nil
  | (with_reducible apply ea_cons) <;> clean_wf
  | with_reducible exact el_nil
  | (with_reducible apply ep_lt) <;> clean_wf
  | (with_reducible apply ep_le) <;> clean_wf
  | (with_reducible apply ep_gt) <;> clean_wf
  | (with_reducible apply ep_ge) <;> clean_wf
  | (with_reducible apply ep_eqi) <;> clean_wf
  | (with_reducible apply ep_nei) <;> clean_wf
  | (with_reducible apply ep_not) <;> clean_wf
  | ((with_reducible apply ep_and) <;> first | (intro _; clean_wf; done) | clean_wf)
  | ((with_reducible apply ep_or) <;> first | (intro _; clean_wf; done) | clean_wf)
  | (with_reducible apply et_t) <;> clean_wf
  | (with_reducible apply eo_is) <;> clean_wf
  | with_reducible exact eo_no
  | array_get_dec
  | bv_omega
  | rfl
  | skip)
local macro_rules | `(tactic| symm_saturate) => `(tactic| first
  | ((with_reducible apply q_set); (focus (clean_wf; done)))
  | ((with_reducible apply s_set); (focus (clean_wf; done)))
  | ((with_reducible apply q_aug (hx := rfl)); (focus (clean_wf; done)))
  | ((with_reducible apply s_aug (hx := rfl)); (focus (clean_wf; done)))
  | ((with_reducible apply q_augC (hx := rfl)); (focus (clean_wf; done)))
  | ((with_reducible apply s_augC (hx := rfl)); (focus (clean_wf; done))))
local macro_rules | `(tactic| subst_eqs) => `(tactic| repeat' (first
  | with_reducible apply w_c
  | ((with_reducible apply w_v'); (focus rfl))
  | with_reducible apply w_op
  | with_reducible apply w_cb
  | with_reducible apply w_cons
  | with_reducible apply w_nil
  | with_reducible apply r_add
  | with_reducible apply r_sub
  | ((with_reducible apply r_mul); (focus (bv_omega; done)))
  | ((with_reducible apply r_div); (focus (bv_omega; done)))
  | ((with_reducible apply r_mod); (focus (bv_omega; done)))
  | ((with_reducible apply r_pow); (focus (bv_omega; done)))
  | with_reducible apply r_lt
  | with_reducible apply r_le
  | with_reducible apply r_gt
  | with_reducible apply r_ge
  | with_reducible apply r_min
  | with_reducible apply r_max
  | with_reducible apply r_intB
  | ((with_reducible apply r_len); (focus (array_get_dec; done)))
  | with_reducible apply w_callW
  | with_reducible apply q_setW
  | with_reducible apply s_setW
  | with_reducible apply s_retW))

/-! ### != of things -/
theorem same_items {A : Around} {s : Shared} : ∀ {xs : List V} {us ws : List Value}, Vals xs us → Vals xs ws → (∀ v ∈ xs, flatB v = true ∨ ∃ c, v = .ref c) → ∀ j (h1 : j < us.length) (h2 : j < ws.length), SeqAt.EqAt A s us[j] ws[j] true
  | [], _, _, .nil, .nil, _ => fun j h1 _ => absurd h1 (Nat.not_lt_zero j)
  | x :: xs, _, _, .cons a1 b1, .cons a2 b2, h => fun j h1 h2 => by
    cases j with
    | zero =>
      rcases h x List.mem_cons_self with f | ⟨c, rfl⟩
      · exact eqAt_same a1 a2 f
      · cases a1
        cases a2
        exact SeqAt.EqAt.same _
    | succ j => exact same_items b1 b2 (fun v hv => h v (List.mem_cons_of_mem _ hv)) j (Nat.lt_of_succ_lt_succ h1) (Nat.lt_of_succ_lt_succ h2)
def rNeX (K : PySem.W.Frag) : R2 := fun x y H Q => rNeD K x y H Q ∨
  (∃ a b xs ys, x = .ref a ∧ y = .ref b ∧ SqL K H a xs ∧ SqL K H b ys ∧ xs.length ≠ ys.length ∧ Q (.bl true) H) ∨
  (∃ a b xs, x = .ref a ∧ y = .ref b ∧ SqL K H a xs ∧ SqL K H b xs ∧ (∀ v ∈ xs, flatB v = true ∨ ∃ c, v = .ref c) ∧ Q (.bl false) H) ∨
  (∃ a xs, x = .ref a ∧ y = .ref a ∧ SqT K H a xs ∧ Q (.bl false) H) ∨ rNeDA x y H Q
theorem op_neX {X : Cx} (hu : X.A.units + 64 < cLine) : OpR X (compareOp .NotEq) (rNeX X.K) := by
  intro pins s σ H x y v u Q I rx ry h
  rcases h with h | ⟨a, b, xs, ys, rfl, rfl, ha, hb, hl, q⟩ | ⟨a, b, xs, rfl, rfl, ha, hb, hf, q⟩ | ⟨a, xs, rfl, rfl, ha, q⟩ | h
  · exact op_neD hu pins s σ H x y v u Q I rx ry h
  · cases (show v = Value.ref a from rx)
    cases (show u = Value.ref b from ry)
    obtain ⟨us, r1, p1, _⟩ := I.list ha
    obtain ⟨ws, r2, p2, _⟩ := I.list hb
    refine SeqAt.RcNeAt.lists_lengths p1.isList p2.isList ?_ (by omega) _ _ _ _ ⟨.bl true, H, I, rfl, q⟩
    rw [List.size_toArray, List.size_toArray, ← r1.length, ← r2.length]
    simpa using hl
  · cases (show v = Value.ref a from rx)
    cases (show u = Value.ref b from ry)
    obtain ⟨us, r1, p1, _⟩ := I.list ha
    obtain ⟨ws, r2, p2, _⟩ := I.list hb
    refine SeqAt.RcNeAt.lists (e := fun _ => true) p1.isList p2.isList (by rw [List.size_toArray, List.size_toArray, ← r1.length, ← r2.length]) (by omega) (fun j h1 h2 => ?_) _ _ _ _ ⟨.bl false, H, I, ?_, q⟩
    · have k := same_items (A := X.A.in1) (s := s) r1 r2 hf j (by simpa using h1) (by simpa using h2)
      simpa using k
    · rw [show ((List.range us.toArray.size).all fun _ => true) = true from List.all_eq_true.mpr fun _ _ => rfl]
      rfl
  · cases (show v = Value.ref a from rx)
    cases (show u = Value.ref a from ry)
    obtain ⟨us, r1, ht, _⟩ := I.tuple ha
    refine SeqAt.RcNeAt.tuples (e := fun _ => true) ht ht (by omega) (fun j h1 h2 => SeqAt.EqAt.same _) _ _ _ _ ⟨.bl false, H, I, ?_, q⟩
    rw [show ((List.range (min us.toArray.size us.toArray.size)).all fun _ => true) = true from List.all_eq_true.mpr fun _ _ => rfl]
    simp
    rfl
  · exact op_ne_dictA (by omega) pins s σ H x y v u Q I rx ry h
/-! ### things that are no rows -/
theorem tyw_ex {K : PySem.W.Frag} {H H' : Hp} {v : V} {t : String} (e : Ex H H') (h : TyW K H v (.type t)) : TyW K H' v (.type t) := by
  rcases h with h | ⟨a, rfl, ha, ht⟩
  · refine .inl ?_
    cases h with
    | base h =>
      refine .base ?_
      cases h with
      | non => exact .non
      | bl x => exact .bl x
      | int i => exact .int i
      | str x => exact .str x
      | flt x => exact .flt x
      | lst h => exact .lst (e _ _ h)
      | frz h => exact .frz (e _ _ h)
      | tup h => exact .tup (e _ _ h)
      | dK h => exact .dK (e _ _ h)
      | dT h => exact .dT (e _ _ h)
    | byt b => exact .byt b
    | set h => exact .set (e _ _ h)
    | kList h c => exact .kList h c
    | kTuple h c => exact .kTuple h c
    | kDict h c => exact .kDict h c
    | fTuple h => exact .fTuple (e _ _ h)
    | fDict h => exact .fDict (e _ _ h)
  · exact .inr ⟨a, rfl, e _ _ ha, ht⟩
/-- no list -/
def NoLi (K : PySem.W.Frag) (H : Hp) (v : V) : Prop := ∃ t, TyW K H v (.type t) ∧ kitB t "list" = some false
/-- no int -/
def NoIn (K : PySem.W.Frag) (H : Hp) (v : V) : Prop := ∃ t, TyW K H v (.type t) ∧ kitB t "int" = some false
/-- no prime below 100 -/
def NoP (K : PySem.W.Frag) (H : Hp) (v : V) : Prop := NoIn K H v ∨ (∃ c, v = .bl c) ∨ ∃ i : Int, v = .int i ∧ ∀ n ∈ PR, i ≠ (n : Int)
def BadRow (K : PySem.W.Frag) (H : Hp) (v : V) : Prop := NoLi K H v ∨ ∃ (a : Addr) (xs : List V), v = .ref a ∧ H a = some (.lst xs) ∧ (∀ x ∈ xs, (∃ n ∈ PR, x = .int (n : Int)) ∨ NoP K H x) ∧ ∀ row, Rw row → row ≠ [] → xs ≠ zv row
theorem NoP.ex {K : PySem.W.Frag} {H H' : Hp} {v : V} (h : NoP K H v) (e : Ex H H') : NoP K H' v := by
  rcases h with ⟨t, ty, k⟩ | h | h
  · exact .inl ⟨t, tyw_ex e ty, k⟩
  · exact .inr (.inl h)
  · exact .inr (.inr h)
theorem BadRow.ex {K : PySem.W.Frag} {H H' : Hp} {v : V} (h : BadRow K H v) (e : Ex H H') : BadRow K H' v := by
  rcases h with ⟨t, ty, k⟩ | ⟨a, xs, rfl, ha, hx, hr⟩
  · exact .inl ⟨t, tyw_ex e ty, k⟩
  · exact .inr ⟨a, xs, rfl, e _ _ ha, fun x h => (hx x h).imp id fun z => z.ex e, hr⟩
section
variable {K : PySem.W.Frag} {B : Hp}
theorem pn_int {i : Int} (h : ∀ n ∈ PR, i ≠ (n : Int)) : NoP K B (.int i) := .inr (.inr ⟨i, rfl, h⟩)
theorem pn_ty {v : V} (t : String) (h : TyOf K B v (.type t)) (k : kitB t "int" = some false) : NoP K B v := .inl ⟨t, .inl (.base h), k⟩
theorem pn_bl {c : Bool} : NoP K B (.bl c) := .inr (.inl ⟨c, rfl⟩)
theorem pn_non : NoP K B .non := pn_ty "NoneType" .non (by decide +kernel)
theorem pn_str {z : Str} : NoP K B (.str z) := pn_ty "str" (.str _) (by decide +kernel)
theorem pn_lst {a : Addr} {xs : List V} (h : B a = some (.lst xs)) : NoP K B (.ref a) := pn_ty "list" (.lst h) (by decide +kernel)
theorem pn_tup {a : Addr} {xs : List V} (h : B a = some (.tup xs)) : NoP K B (.ref a) := pn_ty "tuple" (.tup h) (by decide +kernel)
theorem pn_dK {a : Addr} {kvs : List (Key × V)} (h : B a = some (.dK kvs)) : NoP K B (.ref a) := pn_ty "dict" (.dK h) (by decide +kernel)
theorem bl_ty {v : V} (t : String) (h : TyOf K B v (.type t)) (k : kitB t "list" = some false) : BadRow K B v := .inl ⟨t, .inl (.base h), k⟩
theorem bl_non : BadRow K B .non := bl_ty "NoneType" .non (by decide +kernel)
theorem bl_int {i : Int} : BadRow K B (.int i) := bl_ty "int" (.int i) (by decide +kernel)
theorem bl_bl {c : Bool} : BadRow K B (.bl c) := bl_ty "bool" (.bl c) (by decide +kernel)
theorem bl_str {z : Str} : BadRow K B (.str z) := bl_ty "str" (.str _) (by decide +kernel)
theorem bl_tup {a : Addr} {xs : List V} (h : B a = some (.tup xs)) : BadRow K B (.ref a) := bl_ty "tuple" (.tup h) (by decide +kernel)
theorem bl_dK {a : Addr} {kvs : List (Key × V)} (h : B a = some (.dK kvs)) : BadRow K B (.ref a) := bl_ty "dict" (.dK h) (by decide +kernel)
end
/-! ### whole numbers -/
def sp_is_wholeX (K : PySem.W.Frag) : Sp := fun vs H Q _ => Nod H ∧ ∃ (v : V) (r : Bool), vs = [v] ∧ ((∃ i : Int, v = .int i ∧ r = true) ∨ ((NoIn K H v ∨ ∃ c, v = .bl c) ∧ r = false)) ∧ Q (.bl r) H
/-- slots: thing -/
abbrev n_is_wholeX : List Str := ["thing"]
def t_is_wholeX (K : PySem.W.Frag) : TS := (sFg (tRet (tAndV (tCB (rIsW K) (tCons (tVar 0) (tCons (tC (.ty "int")) tNil))) (tNotV (tCB (rIsW K) (tCons (tVar 0) (tCons (tC (.ty "bool")) tNil)))))))
theorem r_is_wholeX {K : PySem.W.Frag} {vs : List V} {H : Hp} {Q : VK} {E : XK} (h : sp_is_wholeX K vs H Q E) : t_is_wholeX K { nx := fun _ H' => Q .non H', rt := Q } (start n_is_wholeX vs) H := by
  obtain ⟨nd, v, r, rfl, h, q⟩ := h
  rcases h with ⟨i, rfl, rfl⟩ | ⟨⟨t, ty, k⟩ | ⟨c, rfl⟩, rfl⟩
  · exact fg_body (s_ret (ev_and (ev_isW (ev_v 0) ev_c (.ty "int") (.inl (.base (.int i))) (kit_ty (r := true) (by decide +kernel))) fun _ => ev_not (ev_isW (ev_v 0) ev_c (.ty "bool") (.inl (.base (.int i))) (kit_ty (r := false) (by decide +kernel)))) ⟨H, fg_same ex_refl, q⟩)
  · exact fg_body (s_ret (v := .bl false) (ev_and (a := false) (b := false) (ev_isW (ev_v 0) ev_c (.ty "int") ty (kit_ty (r := false) k)) fun z => nomatch z) ⟨H, fg_same ex_refl, q⟩)
  · exact fg_body (s_ret (v := .bl false) (ev_and (a := true) (b := false) (ev_isW (ev_v 0) ev_c (.ty "int") (.inl (.base (.bl c))) (kit_ty (r := true) (by decide +kernel))) fun _ => ev_eq (ev_not (ev_isW (ev_v 0) ev_c (.ty "bool") (.inl (.base (.bl c))) (kit_ty (r := true) (by decide +kernel)))) rfl) ⟨H, fg_same ex_refl, q⟩)
/-! ### rows -/
theorem w_nextX {D : Ends} {σ : L2.St} {H : Hp} (h : D.nx σ H) : tNext D σ H := h
theorem up_adj : ∀ {l : List Nat}, (∀ (i x y : Nat), l[i]? = some x → (l.drop 1)[i]? = some y → x < y) → l.Pairwise (· < ·)
  | [], _ => List.Pairwise.nil
  | [a], _ => by simp
  | a :: b :: r, h => by
    have ih : (b :: r).Pairwise (· < ·) := up_adj fun i x y h1 h2 => h (i + 1) x y (by simpa using h1) (by simpa using h2)
    have hab := h 0 a b rfl rfl
    refine List.Pairwise.cons (fun c hc => ?_) ih
    rcases List.mem_cons.mp hc with rfl | hc
    · exact hab
    · have := (List.pairwise_cons.mp ih).1 c hc
      omega
theorem inV_no {l : List Nat} {i : Int} (h : ∀ n ∈ l, i ≠ (n : Int)) : inV (.int i) (zv l) = false := by
  induction l with
  | nil => rfl
  | cons a l ih =>
    show (eqV (.int (a : Int)) (.int i) || inV (.int i) (zv l)) = _
    rw [ih fun n hn => h n (List.mem_cons_of_mem _ hn)]
    have e : eqV (.int (a : Int)) (.int i) = decide ((a : Int) = i) := rfl
    rw [e, decide_eq_false (fun z => h a List.mem_cons_self z.symm)]
    rfl
theorem all_zv : ∀ {xs : List V}, (∀ x ∈ xs, ∃ n ∈ PR, x = .int (n : Int)) → ∃ l : List Nat, xs = zv l ∧ ∀ n ∈ l, n ∈ PR
  | [], _ => ⟨[], rfl, by simp⟩
  | x :: xs, h => by
    obtain ⟨n, hn, rfl⟩ := h x List.mem_cons_self
    obtain ⟨l, e, hl⟩ := all_zv fun y hy => h y (List.mem_cons_of_mem _ hy)
    exact ⟨n :: l, by rw [e]; rfl, fun m hm => (List.mem_cons.mp hm).elim (fun z => z ▸ hn) (hl m)⟩
def sp_is_rowX (K : PySem.W.Frag) : Sp := fun vs H Q _ => Nod H ∧ ∃ (v : V) (r : Bool), vs = [v] ∧ ((∃ a row, v = .ref a ∧ RowAt H a row ∧ r = true) ∨ (BadRow K H v ∧ r = false)) ∧ Q (.bl r) H
/-- slots: thing one further -/
abbrev n_is_rowX : List Str := ["thing", "one", "further"]
def t_is_rowX (K : PySem.W.Frag) (a_PRIMES : Addr) : TS := (sFg (tSeq (tIfS (tOr (tNot (tB (tCB (rIsW K) (tCons (tVar 0) (tCons (tC (.ty "list")) tNil))))) (tNot (tTest (tChain oLe oLe (tC (.int 1)) (tCB (cLen K) (tCons (tVar 0) tNil)) (tC (.int 6)))))) (tRet (tC (.bl false))) tNext)
  (tSeq (tIfS (tTest (tOp (rNeX K) (tLc (iList K (tVar 0)) (gName 1) (tOr (tNot (tB (tCall (sp_is_wholeX K) [] E0 (tCons (tVar 1) tNil)))) (tTest (tOp (rIn K true) (tVar 1) (tC (.ref a_PRIMES))))) (tVar 1) [1]) (tLst tNil))) (tRet (tC (.bl false))) tNext)
  (tRet (tOp (rEqD K) (tLc (iZip K (tCons (tVar 0) (tCons (tSl (rSlL K) (tVar 0) (tPart (tC (.int 1))) tNoPart) tNil))) (gTup K 2 (gCons (gName 1) (gCons (gName 2) gNil))) (tTest (tOp oLe (tVar 2) (tVar 1))) (tC (.int 1)) [1, 2]) (tLst tNil))))))
open Classical in
theorem r_is_rowX {K : PySem.W.Frag} {aP : Addr} (hP : PrAt K aP) {vs : List V} {H : Hp} {Q : VK} {E : XK} (h : sp_is_rowX K vs H Q E) : t_is_rowX K aP { nx := fun _ H' => Q .non H', rt := Q } (start n_is_rowX vs) H := by
  obtain ⟨nd, v, r, rfl, h, q⟩ := h
  -- a list of known things
  suffices hmain : ∀ (a : Addr) (xs : List V), v = .ref a → H a = some (.lst xs) → (∀ x ∈ xs, (∃ n ∈ PR, x = .int (n : Int)) ∨ NoP K H x) → (r = true ↔ ∃ row, Rw row ∧ row ≠ [] ∧ xs = zv row) → t_is_rowX K aP { nx := fun _ H' => Q .non H', rt := Q } (start n_is_rowX [v]) H by
    rcases h with ⟨a, row, rfl, ra, rfl⟩ | ⟨⟨t, ty, k⟩ | ⟨a, xs, rfl, ha, hx, hr⟩, rfl⟩
    · exact hmain a (zv row) rfl ra.at_ (fun x hx => by
        obtain ⟨i, hi, rfl⟩ := mem_int hx
        obtain ⟨n, hn, rfl⟩ := List.mem_map.mp hi
        exact .inl ⟨n, ra.w.mem n hn, rfl⟩) ⟨fun _ => ⟨row, ra.w, ra.ne, rfl⟩, fun _ => rfl⟩
    · exact fg_body (q_when (b := true) (et_eq (et_or (a := true) (b := true) (et_eq (et_not (et_b (ev_isW (ev_v 0) ev_c (.ty "list") ty (kit_ty (r := false) k)))) rfl) fun z => nomatch z) rfl) (fun _ => s_ret ev_c ⟨H, fg_same ex_refl, q⟩) fun z => nomatch z)
    · exact hmain a xs rfl ha hx ⟨fun z => (nomatch z), fun ⟨row, w, hne, e⟩ => (hr row w hne e).elim⟩
  clear h
  intro a xs hv ha hx hr
  subst hv
  have sa : SqL K H a xs := sq_at ha
  have no : ∀ b : Bool, b = true → (¬ ∃ row, Rw row ∧ row ≠ [] ∧ xs = zv row) → r = false := fun _ _ z => by
    cases e : r with
    | false => rfl
    | true => exact absurd (hr.mp e) z
  have isl : EvP (tB (tCB (rIsW K) (tCons (tVar 0) (tCons (tC (.ty "list")) tNil)))) (start n_is_rowX [.ref a]) H (true = true) := ep_b (ev_isW (ev_v 0) ev_c (.ty "list") (.inl (.base (.lst ha))) (kit_ty (r := true) (by decide +kernel)))
  refine fg_body (q_whenP (ep_or (ep_not isl) fun _ => ep_not (ep_chain ev_c (ev_len (ev_v 0) sa) rv_0 (fun _ => ev_c) fun _ => rv_0)) (fun hc => ?_) fun hc => ?_)
  · have hl : ¬ (1 ≤ xs.length ∧ xs.length ≤ 6) := by
      rcases hc with hc | hc
      · exact absurd rfl hc
      · intro z; exact hc (by simp; omega)
    have hf := no true rfl fun ⟨row, w, hne, e⟩ => hl (by
      have := w.le
      have := List.length_pos_iff.mpr hne
      rw [e, zv_len]; omega)
    rw [hf] at q
    exact s_ret ev_c ⟨H, fg_same ex_refl, q⟩
  have hl : 1 ≤ xs.length ∧ xs.length ≤ 6 := by
    have h2 := fun z => hc (.inr z)
    have h3 := Classical.not_not.mp h2
    simp at h3; omega
  have comp := el_lc (K := K) (H := H) (σ := start n_is_rowX [.ref a]) (tl := tVar 0) (n := 1) (vs := [1]) (t := tOr (tNot (tB (tCall (sp_is_wholeX K) [] E0 (tCons (tVar 1) tNil)))) (tTest (tOp (rIn K true) (tVar 1) (tC (.ref aP))))) (te := tVar 1) (fun x => !decide (∃ n ∈ PR, x = V.int (n : Int))) (fun x => x) (ev_v 0) sa (Nat.le_trans hl.2 (by decide)) (fun _ => rfl) (fun x hxx D acc hD => by
    have nD : Nod (upd H D (.lst acc)) := nod_upd nd trivial
    by_cases hp : ∃ n ∈ PR, x = V.int (n : Int)
    · obtain ⟨n, hn, rfl⟩ := hp
      rw [decide_eq_true ⟨n, hn, rfl⟩]
      refine ep_no (ep_or (ep_not (ep_b (ev_call (v := .bl true) (ea_1 (ev_v 1)) fun Q q => ⟨nD, _, true, rfl, .inl ⟨_, rfl, rfl⟩, q⟩))) fun _ => ep_of (et_t (ev_op (z := .bl false) (ev_v 1) ev_c fun Q q => ⟨aP, zv PR, rfl, .inl (hP _), rfl, zv_flat _, ?_⟩))) (by simp)
      rw [inV_iff, decide_eq_true hn]
      exact q
    · rw [decide_eq_false hp]
      have hno := ((hx x hxx).resolve_left hp).ex (ex_new hD (o := .lst acc))
      rcases hno with hno | ⟨c, rfl⟩ | ⟨i, rfl, hi⟩
      · exact ep_yes (ep_or (R := False) (ep_not (ep_b (ev_call (v := .bl false) (ea_1 (ev_v 1)) fun Q q => ⟨nD, _, false, rfl, .inr ⟨.inl hno, rfl⟩, q⟩))) fun z => absurd (fun y => nomatch y) z) (.inl fun y => nomatch y)
      · exact ep_yes (ep_or (R := False) (ep_not (ep_b (ev_call (v := .bl false) (ea_1 (ev_v 1)) fun Q q => ⟨nD, _, false, rfl, .inr ⟨.inr ⟨c, rfl⟩, rfl⟩, q⟩))) fun z => absurd (fun y => nomatch y) z) (.inl fun y => nomatch y)
      · refine ep_yes (ep_or (ep_not (ep_b (ev_call (v := .bl true) (ea_1 (ev_v 1)) fun Q q => ⟨nD, _, true, rfl, .inl ⟨_, rfl, rfl⟩, q⟩))) fun _ => ep_of (et_t (ev_op (z := .bl true) (ev_v 1) ev_c fun Q q => ⟨aP, zv PR, rfl, .inl (hP _), rfl, zv_flat _, ?_⟩))) (.inr rfl)
        rw [inV_no hi]
        exact q) fun x hxx _ D acc hD => ev_v 1
  refine q_ifW (w_tst (w_op (w_evL comp fun p1 hp1 => el_nil _ fun p2 hp2 => ?_)))
  rw [List.map_id'] at hp2 ⊢
  have o : Own H [] H := Own.nil
  replace o := o.new (xs := xs.filter fun x => !decide (∃ n ∈ PR, x = V.int (n : Int))) hp1
  replace o := o.new (xs := []) hp2
  by_cases hG : (xs.filter fun x => !decide (∃ n ∈ PR, x = V.int (n : Int))) = []
  rotate_left
  · refine .inr (.inl ⟨p1, p2, _, [], rfl, rfl, o.sqi 1 rfl, o.sqi 0 rfl, fun z => hG (List.length_eq_zero_iff.mp z), ⟨_, rfl, iteT ?_⟩⟩)
    have hf := no true rfl fun ⟨row, w, hne, e⟩ => hG (by
      rw [List.filter_eq_nil_iff]
      intro x hxx
      rw [e] at hxx
      obtain ⟨i, hi, rfl⟩ := mem_int hxx
      obtain ⟨n, hn, rfl⟩ := List.mem_map.mp hi
      simp only [Bool.not_eq_true', decide_eq_false_iff_not, Classical.not_not]
      exact ⟨n, w.mem n hn, rfl⟩)
    rw [hf] at q
    exact s_ret ev_c ⟨H, fg_same o.ex, q⟩
  rw [hG] at o hp2 ⊢
  refine .inl (rv_neI (ns := []) (ms := []) (o.sqi 1 rfl) (o.sqi 0 rfl) _ ⟨_, rfl, ?_⟩)
  rw [show (!decide (([] : List Int) = [])) = false by simp]
  refine iteF (w_nextX ?_)
  dsimp only
  obtain ⟨l, rfl, hlp⟩ := all_zv (xs := xs) fun x hxx => by
    have := List.filter_eq_nil_iff.mp hG x hxx
    simpa using this
  rw [zv_len] at hl
  have oB := o.base
  generalize hHH : upd (upd H p1 _) p2 _ = H1 at o oB
  have sa1 : SqL K H1 a (zv l) := o.sq sa
  refine s_retW (w_op (w_lcZ ?_))
  refine w_cons (w_v 0 (w_one (w_evL (el_sl (ev_v 0) (eo_is ev_c) eo_no sa1) fun p3 hp3 => ?_)))
  rw [show cutV (zv l) (some 1) none = zv (l.drop 1) from cut_fromN l 1] at *
  have o3 : Own H1 [(p3, zv (l.drop 1))] (upd H1 p3 (.lst (zv (l.drop 1)))) := oB.new hp3
  refine ⟨a, p3, zv l, zv (l.drop 1), rfl, o3.sq sa1, o3.sqi 0 rfl, lcat_zip (xs := zv l) (ys := zv (l.drop 1)) (fun D i H' => ∃ k : Nat, Own H1 [(D, zv (List.replicate k 1)), (p3, zv (l.drop 1))] H' ∧ k ≤ i ∧ (k = 0 ↔ ∀ (j x y : Nat), j < i → l[j]? = some x → (l.drop 1)[j]? = some y → x < y)) (fun D hD => ⟨0, o3.new hD, by omega, by simp⟩) (fun D i H' hD hI => ?_) (fun x y => rfl) (fun D i x y T H' hD hx hy hI hT => ?_) fun D H' hD hI => ?_⟩
  · obtain ⟨k, o, _⟩ := hI
    exact ⟨o.sq sa1, o.sqi 1 rfl⟩
  · obtain ⟨k, o4, hk, hiff⟩ := hI
    obtain ⟨x', e1, rfl⟩ := zv_some hx
    obtain ⟨y', e2, rfl⟩ := zv_some hy
    have hil := (List.getElem?_eq_some_iff.mp e1).1
    replace o4 := o4.tup (xs := [.int (x' : Int), .int (y' : Int)]) hT
    refine ep_le (i := (y' : Int)) (j := (x' : Int)) (ev_v 2) (ev_v 1) _ (fun hc => iteT (w_c ⟨_, o4.atI 0 rfl, by rw [zv_len, List.length_replicate]; exact szl (by omega), k + 1, ?_, by omega, ?_⟩)) fun hc => iteF ⟨k, o4, by omega, hiff.trans ⟨fun z j a b hj h1 h2 => ?_, fun z j a b hj h1 h2 => z j a b (by omega) h1 h2⟩⟩
    · rw [show zv (List.replicate k 1) ++ [V.int 1] = zv (List.replicate (k + 1) 1) by rw [List.replicate_succ']; simp]
      exact o4.mut 0 rfl
    · refine ⟨fun z => absurd z (by omega), fun z => ?_⟩
      have := z i x' y' (by omega) e1 e2
      omega
    · rcases Nat.lt_succ_iff_lt_or_eq.mp hj with hj | rfl
      · exact z j a b hj h1 h2
      · rw [e1] at h1; rw [e2] at h2; cases h1; cases h2; omega
  · obtain ⟨k, o4, hk, hiff⟩ := hI
    refine el_nil _ fun p5 hp5 => rv_eqI (ns := zl (List.replicate k 1)) (ms := []) (sq_new hp5 (o4.sqi 0 rfl)) sq_up _ ?_
    have er : decide (zl (List.replicate k 1) = []) = r := by
      have h1 : (zl (List.replicate k 1) = []) ↔ k = 0 := by
        cases k with
        | zero => simp
        | succ k => simp
      cases hrr : r with
      | true =>
        obtain ⟨row, w, hne, e⟩ := hr.mp hrr
        have e : l = row := by
          have := congrArg (List.map fun v => match v with | V.int i => i.toNat | _ => 0) e
          simp only [zl, List.map_map] at this
          have h2 : ∀ l : List Nat, l.map ((fun v => match v with | V.int i => i.toNat | _ => 0) ∘ V.int ∘ fun (x : Nat) => (x : Int)) = l := fun l => by
            rw [show ((fun v => match v with | V.int i => i.toNat | _ => 0) ∘ V.int ∘ fun (x : Nat) => (x : Int)) = id from funext fun x => by simp]; simp
          rw [h2, h2] at this
          exact this
        subst e
        exact decide_eq_true (h1.mpr (hiff.mpr fun j x y _ h1 h2 => get_up w.up h1 h2))
      | false =>
        refine decide_eq_false fun z => ?_
        have hup : l.Pairwise (· < ·) := up_adj fun i x y h1' h2' => hiff.mp (h1.mp z) i x y (by
          have := (List.getElem?_eq_some_iff.mp h2').1
          have := (List.getElem?_eq_some_iff.mp h1').1
          rw [zv_len, zv_len]
          simp at *
          omega) h1' h2'
        have := hr.mpr ⟨l, ⟨hlp, hup, hl.2⟩, fun z => by rw [z] at hl; simp at hl, rfl⟩
        rw [hrr] at this
        cases this
    rw [er]
    exact ⟨H, fg_same (ex_trans o.ex (o4.tmp hp5).ex), q⟩
end Px
set_option Elab.async false
set_option linter.all false
set_option maxRecDepth 100000
set_option maxHeartbeats 4000000
/-! what repr tells: a list of pairs of numbers is shown by itself alone -/
namespace MU
open PySem PySem.PyData PySem.StrLaws PySem.Builtin PySem.Builtin.Str PyProof.Rows
abbrev sg (d : PyData) : List Nat := d.shown.cps.toList
/-- a figure, or the sign of a number below 0 -/
def Num (c : Nat) : Prop := c = 45 ∨ (48 ≤ c ∧ c ≤ 57)
theorem map_inj {α β : Type} {f : α → β} (hf : ∀ a b, f a = f b → a = b) : ∀ {l m : List α}, l.map f = m.map f → l = m
  | [], [], _ => rfl
  | [], _ :: _, h => by simp at h
  | _ :: _, [], h => by simp at h
  | a :: l, b :: m, h => by
    rw [List.map_cons, List.map_cons] at h
    injection h with h1 h2
    rw [hf a b h1, map_inj hf h2]
theorem char_inj (a b : Char) (h : a.toNat = b.toNat) : a = b := Char.ext (UInt32.toNat_inj.mp h)
theorem dig_inj {n m : Nat} (h : Nat.toDigits 10 n = Nat.toDigits 10 m) : n = m := by
  have h1 := Nat.ofDigitChars_toDigits (b := 10) (n := n) (by omega) (by omega)
  rw [h, Nat.ofDigitChars_toDigits (by omega) (by omega)] at h1
  exact h1.symm
theorem dash_no {n : Nat} : '-' ∉ Nat.toDigits 10 n := fun h => by
  have := Nat.isDigit_of_mem_toDigits (by decide) (by decide) h
  exact absurd this (by decide)
theorem dig_ne {n : Nat} : Nat.toDigits 10 n ≠ [] := fun h => by
  have h1 := Nat.length_toDigits_pos (b := 10) (n := n)
  rw [h] at h1
  simp at h1
theorem int_list (i : Int) : (toString i).toList = if 0 ≤ i then Nat.toDigits 10 i.toNat else '-' :: Nat.toDigits 10 (-i).toNat := by
  rw [Int.toString_eq_repr, Int.repr_eq_if]
  split
  · rw [Nat.toList_repr]
  · rw [String.toList_append, Nat.toList_repr]; rfl
theorem int_inj {i j : Int} (h : (toString i).toList = (toString j).toList) : i = j := by
  rw [int_list, int_list] at h
  split at h <;> split at h
  · have := dig_inj h; omega
  · exact absurd (by rw [h]; exact List.mem_cons_self) (dash_no (n := i.toNat))
  · exact absurd (by rw [← h]; exact List.mem_cons_self) (dash_no (n := j.toNat))
  · injection h with _ h
    have := dig_inj h; omega
theorem sg_int (i : Int) : sg (.int i) = (toString i).toList.map Char.toNat := by
  show (PyData.int i).shown.cps.toList = _
  rw [shown_int, signs_ofString]
theorem sg_int_num {i : Int} : ∀ c ∈ sg (.int i), Num c := fun c hc => by
  rw [sg_int] at hc
  obtain ⟨ch, h1, rfl⟩ := List.mem_map.mp hc
  rcases int_sign i ch h1 with h | h
  · exact .inr (digit_range h)
  · rw [h]; exact .inl (by decide)
theorem sg_int_ne (i : Int) : sg (.int i) ≠ [] := fun h => by
  rw [sg_int] at h
  have h2 := List.map_eq_nil_iff.mp h
  rw [int_list] at h2
  split at h2
  · exact dig_ne h2
  · cases h2
theorem sg_int_inj {i j : Int} (h : sg (.int i) = sg (.int j)) : i = j := by
  rw [sg_int, sg_int] at h
  exact int_inj (map_inj char_inj h)
/-- where both begin with what P holds of, and then not -/
theorem cut_eq {P : Nat → Prop} : ∀ {l m s t : List Nat}, (∀ c ∈ l, P c) → (∀ c ∈ m, P c) → (∀ c, s.head? = some c → ¬ P c) → (∀ c, t.head? = some c → ¬ P c) → l ++ s = m ++ t → l = m ∧ s = t
  | [], [], s, t, _, _, _, _, h => ⟨rfl, h⟩
  | [], b :: m, s, t, _, hm, hs, _, h => by
    rw [List.nil_append, List.cons_append] at h
    exact absurd (hm b List.mem_cons_self) (hs b (by rw [h]; rfl))
  | a :: l, [], s, t, hl, _, _, ht, h => by
    rw [List.nil_append, List.cons_append] at h
    exact absurd (hl a List.mem_cons_self) (ht a (by rw [← h]; rfl))
  | a :: l, b :: m, s, t, hl, hm, hs, ht, h => by
    rw [List.cons_append, List.cons_append] at h
    injection h with h1 h2
    obtain ⟨e1, e2⟩ := cut_eq (fun c hc => hl c (List.mem_cons_of_mem _ hc)) (fun c hc => hm c (List.mem_cons_of_mem _ hc)) hs ht h2
    exact ⟨by rw [h1, e1], e2⟩
/-! ### what things begin with -/
theorem sg_none : sg .none = [78, 111, 110, 101] := by show (PyData.none).shown.cps.toList = _; rw [shown_none]; decide +kernel
theorem sg_bool (b : Bool) : sg (.bool b) = if b then [84, 114, 117, 101] else [70, 97, 108, 115, 101] := by
  show (PyData.bool b).shown.cps.toList = _
  rw [shown_bool]
  cases b <;> decide +kernel
theorem foldl_head (q : Nat) : ∀ (l : List Nat) (acc : Array Nat) (c : Nat), acc.toList.head? = some c → (l.foldl (fun out c => out ++ (reprChar q c).toArray) acc).toList.head? = some c
  | [], acc, c, h => h
  | x :: l, acc, c, h => foldl_head q l _ c (by
    rw [Array.toList_append, List.head?_append, h]
    rfl)
theorem sg_str (x : Str) : (sg (.str x)).head? = some 34 ∨ (sg (.str x)).head? = some 39 := by
  have h : (sg (.str x)).head? = some (reprQuote x) := by
    show (PyData.str x).shown.cps.toList.head? = _
    rw [shown_str]
    unfold reprText
    show (Array.push _ _).toList.head? = _
    rw [Array.toList_push, List.head?_append, ← Array.foldl_toList, foldl_head (reprQuote x) x.cps.toList #[reprQuote x] (reprQuote x) rfl]
    rfl
  rw [h]
  unfold reprQuote
  split <;> simp
/-- the items behind the first, each with its comma -/
def T : List PyData → List Nat
  | [] => []
  | x :: r => [44, 32] ++ sg x ++ T r
theorem comma : (Str.ofString ", ").cps.toList = [44, 32] := by decide +kernel
theorem sg_join (x : PyData) : ∀ r : List PyData, (Str.join ", " (shownAll (x :: r))).cps.toList = sg x ++ T r
  | [] => by rw [shownAll_cons, shownAll_nil, join_one, T, List.append_nil]
  | y :: r => by
    have ih := sg_join y r
    rw [shownAll_cons] at ih
    rw [shownAll_cons, shownAll_cons, join_cons_cons, cps_toList_append, cps_toList_append, ih, comma, T]
    simp
theorem sg_list_nil : sg (.list []) = [91, 93] := by
  show (PyData.list []).shown.cps.toList = _
  rw [shown_list, shownAll_nil, join_nil]; decide +kernel
theorem sg_list (x : PyData) (r : List PyData) : sg (.list (x :: r)) = 91 :: (sg x ++ (T r ++ [93])) := by
  show (PyData.list (x :: r)).shown.cps.toList = _
  rw [shown_list, cps_toList_append, cps_toList_append, sg_join]
  rw [show (Str.ofString "[").cps.toList = [91] by decide +kernel, show (Str.ofString "]").cps.toList = [93] by decide +kernel]
  simp
theorem sg_tup_nil : sg (.tuple []) = [40, 41] := by
  show (PyData.tuple []).shown.cps.toList = _
  rw [shown_tuple, shownAll_nil, join_nil]; decide +kernel
theorem sg_tup_one (x : PyData) : sg (.tuple [x]) = 40 :: (sg x ++ [44, 41]) := by
  show (PyData.tuple [x]).shown.cps.toList = _
  rw [shown_tuple, cps_toList_append, cps_toList_append, sg_join, T, List.append_nil]
  rw [show (Str.ofString "(").cps.toList = [40] by decide +kernel, show (Str.ofString (if ([x].length == 1) = true then ",)" else ")")).cps.toList = [44, 41] by show (Str.ofString ",)").cps.toList = _; decide +kernel]
  simp
theorem sg_tup (x y : PyData) (r : List PyData) : sg (.tuple (x :: y :: r)) = 40 :: (sg x ++ (44 :: 32 :: (sg y ++ (T r ++ [41])))) := by
  show (PyData.tuple (x :: y :: r)).shown.cps.toList = _
  rw [shown_tuple, cps_toList_append, cps_toList_append, sg_join, T]
  rw [show (Str.ofString "(").cps.toList = [40] by decide +kernel, show (Str.ofString (if ((x :: y :: r).length == 1) = true then ",)" else ")")).cps.toList = [41] by
    rw [show ((x :: y :: r).length == 1) = false by simp]; show (Str.ofString ")").cps.toList = _; decide +kernel]
  simp
theorem sg_dict (kvs : List (PyData × PyData)) : (sg (.dict kvs)).head? = some 123 := by
  show (PyData.dict kvs).shown.cps.toList.head? = _
  rw [shown_dict, cps_toList_append, cps_toList_append, show (Str.ofString "{").cps.toList = [123] by decide +kernel]
  rfl
theorem sg_ne : ∀ d, sg d ≠ []
  | .none => by rw [sg_none]; simp
  | .bool b => by rw [sg_bool]; cases b <;> simp
  | .int i => sg_int_ne i
  | .str x => fun h => by have := sg_str x; rw [h] at this; simp at this
  | .list [] => by rw [sg_list_nil]; simp
  | .list (x :: r) => by rw [sg_list]; simp
  | .tuple [] => by rw [sg_tup_nil]; simp
  | .tuple [x] => by rw [sg_tup_one]; simp
  | .tuple (x :: y :: r) => by rw [sg_tup]; simp
  | .dict kvs => fun h => by have := sg_dict kvs; rw [h] at this; simp at this
/-- begins as a number does -/
theorem head_num {d : PyData} {c : Nat} (h : (sg d).head? = some c) (hc : Num c) : ∃ i, d = .int i := by
  unfold Num at hc
  match d, h with
  | .none, h => rw [sg_none] at h; simp at h; omega
  | .bool b, h => rw [sg_bool] at h; cases b <;> simp at h <;> omega
  | .int i, _ => exact ⟨i, rfl⟩
  | .str x, h => rcases sg_str x with z | z <;> rw [z] at h <;> simp at h <;> omega
  | .list [], h => rw [sg_list_nil] at h; simp at h; omega
  | .list (x :: r), h => rw [sg_list] at h; simp at h; omega
  | .tuple [], h => rw [sg_tup_nil] at h; simp at h; omega
  | .tuple [x], h => rw [sg_tup_one] at h; simp at h; omega
  | .tuple (x :: y :: r), h => rw [sg_tup] at h; simp at h; omega
  | .dict kvs, h => rw [sg_dict] at h; simp at h; omega
theorem head_tup {d : PyData} (h : (sg d).head? = some 40) : ∃ ds, d = .tuple ds := by
  match d, h with
  | .none, h => rw [sg_none] at h; simp at h
  | .bool b, h => rw [sg_bool] at h; cases b <;> simp at h
  | .int i, h =>
    have := sg_int_num (i := i) 40 (List.mem_of_head? h)
    unfold Num at this
    omega
  | .str x, h => rcases sg_str x with z | z <;> rw [z] at h <;> simp at h
  | .list [], h => rw [sg_list_nil] at h; simp at h
  | .list (x :: r), h => rw [sg_list] at h; simp at h
  | .tuple ds, _ => exact ⟨ds, rfl⟩
  | .dict kvs, h => rw [sg_dict] at h; simp at h
theorem head_list {d : PyData} (h : (sg d).head? = some 91) : ∃ ds, d = .list ds := by
  match d, h with
  | .none, h => rw [sg_none] at h; simp at h
  | .bool b, h => rw [sg_bool] at h; cases b <;> simp at h
  | .int i, h =>
    have := sg_int_num (i := i) 91 (List.mem_of_head? h)
    unfold Num at this
    omega
  | .str x, h => rcases sg_str x with z | z <;> rw [z] at h <;> simp at h
  | .list ds, _ => exact ⟨ds, rfl⟩
  | .tuple [], h => rw [sg_tup_nil] at h; simp at h
  | .tuple [x], h => rw [sg_tup_one] at h; simp at h
  | .tuple (x :: y :: r), h => rw [sg_tup] at h; simp at h
  | .dict kvs, h => rw [sg_dict] at h; simp at h
theorem head_off {d : PyData} : (sg d).head? ≠ some 93 := fun h => by
  match d, h with
  | .none, h => rw [sg_none] at h; simp at h
  | .bool b, h => rw [sg_bool] at h; cases b <;> simp at h
  | .int i, h =>
    have := sg_int_num (i := i) 93 (List.mem_of_head? h)
    unfold Num at this
    omega
  | .str x, h => rcases sg_str x with z | z <;> rw [z] at h <;> simp at h
  | .list [], h => rw [sg_list_nil] at h; simp at h
  | .list (x :: r), h => rw [sg_list] at h; simp at h
  | .tuple [], h => rw [sg_tup_nil] at h; simp at h
  | .tuple [x], h => rw [sg_tup_one] at h; simp at h
  | .tuple (x :: y :: r), h => rw [sg_tup] at h; simp at h
  | .dict kvs, h => rw [sg_dict] at h; simp at h
theorem head_app {l s t : List Nat} (h : l ≠ []) (e : l ++ s = t) : l.head? = t.head? := by
  obtain ⟨a, r, rfl⟩ := List.exists_cons_of_ne_nil h
  rw [← e]; rfl
/-! ### the ways back -/
theorem int_back {d : PyData} {i : Int} {s t : List Nat} (hs : ∀ c, s.head? = some c → ¬ Num c) (ht : ∀ c, t.head? = some c → ¬ Num c) (h : sg d ++ s = sg (.int i) ++ t) : d = .int i ∧ s = t := by
  have h1 := head_app (sg_ne d) h
  obtain ⟨a, r, ha⟩ := List.exists_cons_of_ne_nil (sg_int_ne i)
  rw [ha] at h1
  obtain ⟨j, rfl⟩ := head_num h1 (sg_int_num a (by rw [ha]; exact List.mem_cons_self))
  obtain ⟨e1, e2⟩ := cut_eq sg_int_num sg_int_num hs ht h
  exact ⟨by rw [sg_int_inj e1], e2⟩
def pair (q : Int × Int) : PyData := .tuple [.int q.1, .int q.2]
theorem no_num {c : Nat} (h : c = 44 ∨ c = 41) {t : List Nat} : ∀ b, (c :: t).head? = some b → ¬ Num b := fun b hb z => by
  cases hb
  unfold Num at z
  omega
theorem T_head {r : List PyData} {t : List Nat} : ∀ b, (T r ++ (41 :: t)).head? = some b → ¬ Num b := by
  cases r with
  | nil => exact no_num (.inr rfl)
  | cons x r => exact no_num (.inl rfl)
theorem pair_back {d : PyData} {q : Int × Int} {s t : List Nat} (h : sg d ++ s = sg (pair q) ++ t) : d = pair q ∧ s = t := by
  unfold pair at h ⊢
  have h1 := head_app (sg_ne d) h
  rw [sg_tup] at h1
  obtain ⟨ds, rfl⟩ := head_tup h1
  rw [sg_tup, T, List.nil_append, List.cons_append, List.append_assoc, List.cons_append, List.cons_append, List.append_assoc] at h
  match ds, h with
  | [], h =>
    rw [sg_tup_nil] at h
    injection h with _ h
    obtain ⟨a, r, ha⟩ := List.exists_cons_of_ne_nil (sg_int_ne q.1)
    rw [ha] at h
    injection h with h _
    have := sg_int_num (i := q.1) a (by rw [ha]; exact List.mem_cons_self)
    unfold Num at this
    omega
  | [x], h =>
    rw [sg_tup_one, List.cons_append, List.append_assoc] at h
    injection h with _ h
    obtain ⟨_, h⟩ := int_back (no_num (.inl rfl)) (no_num (.inl rfl)) h
    injection h with _ h
    injection h with h _
    omega
  | x :: y :: r, h =>
    rw [sg_tup, List.cons_append, List.append_assoc] at h
    injection h with _ h
    obtain ⟨rfl, h⟩ := int_back (no_num (.inl rfl)) (no_num (.inl rfl)) h
    have h4 : sg y ++ (T r ++ (41 :: s)) = sg (.int q.2) ++ (41 :: t) := by simpa using h
    obtain ⟨e5, h5⟩ := int_back T_head (no_num (.inr rfl)) h4
    clear h h4
    cases r with
    | nil =>
      have h6 : (41 : Nat) :: s = 41 :: t := h5
      injection h6 with _ h7
      exact ⟨by rw [e5], h7⟩
    | cons z r =>
      have h6 : (44 : Nat) :: ([32] ++ sg z ++ T r ++ ([41] ++ s)) = 41 :: t := by simpa [T] using h5
      injection h6 with h7 _
      omega
theorem items_back : ∀ {qs : List (Int × Int)} {ds : List PyData}, T ds ++ [93] = T (qs.map pair) ++ [93] → ds = qs.map pair
  | [], [], _ => rfl
  | [], x :: r, h => by
    injection h with h _
    omega
  | q :: qs, [], h => by
    injection h with h _
    omega
  | q :: qs, x :: r, h => by
    rw [List.map_cons, T, T] at h
    simp only [List.append_assoc] at h
    injection h with _ h
    injection h with _ h
    obtain ⟨e1, e2⟩ := pair_back h
    rw [List.map_cons, e1, items_back e2]
theorem list_back {d : PyData} {qs : List (Int × Int)} (h : d.shown = (PyData.list (qs.map pair)).shown) : d = .list (qs.map pair) := by
  have h : sg d = sg (.list (qs.map pair)) := congrArg (fun x : Str => x.cps.toList) h
  cases qs with
  | nil =>
    rw [List.map_nil, sg_list_nil] at h
    obtain ⟨ds, rfl⟩ := head_list (by rw [h]; rfl)
    cases ds with
    | nil => rfl
    | cons x r =>
      rw [sg_list] at h
      injection h with _ h
      exact absurd (head_app (sg_ne x) h) head_off
  | cons q qs =>
    rw [List.map_cons, sg_list] at h
    obtain ⟨ds, rfl⟩ := head_list (by rw [h]; rfl)
    cases ds with
    | nil =>
      rw [sg_list_nil] at h
      injection h with _ h
      exact absurd (head_app (sg_ne (pair q)) h.symm) head_off
    | cons x r =>
      rw [sg_list] at h
      injection h with _ h
      obtain ⟨e1, e2⟩ := pair_back h
      rw [List.map_cons, e1, items_back e2]
theorem list_iff {d : PyData} {qs : List (Int × Int)} : d.shown = (PyData.list (qs.map pair)).shown ↔ d = .list (qs.map pair) := ⟨list_back, fun h => by rw [h]⟩
end MU
set_option Elab.async false
set_option linter.all false
set_option maxRecDepth 100000
set_option maxHeartbeats 4000000
namespace Px
open PySem L2 MA
local macro_rules | `(tactic| bv_omega) => `(tactic| first | assumption | omega | exact cm (by omega) | exact cd (by omega) | exact cp (by omega) | exact trivial)
local macro_rules | `(tactic| array_get_dec) => `(tactic| first
  | assumption
  | exact sq_up
  | exact Own.sqi (by assumption) 0 (by rfl)
  | exact Own.sqi (by assumption) 1 (by rfl)
  | exact Own.sqi (by assumption) 2 (by rfl)
  | exact Own.sqi (by assumption) 3 (by rfl)
  | exact Own.sqi (by assumption) 4 (by rfl)
  | exact Own.sq (by assumption) (by assumption)
  | exact sq_new (by assumption) (by assumption))
local macro_rules | `(tactic| clean_wf) => `(tactic| first
  | with_reducible exact ev_c
  | (with_reducible apply ev_v') <;> rfl
  | (with_reducible apply ev_add) <;> clean_wf
  | (with_reducible apply ev_sub) <;> clean_wf
  | (with_reducible apply ev_mul) <;> clean_wf
  | (with_reducible apply ev_mod) <;> clean_wf
  | (with_reducible apply ev_div) <;> clean_wf
  | (with_reducible apply ev_pow) <;> clean_wf
  | (with_reducible apply ev_neg) <;> clean_wf
  | (with_reducible apply ev_lt) <;> clean_wf
  | (with_reducible apply ev_le) <;> clean_wf
  | (with_reducible apply ev_gt) <;> clean_wf
  | (with_reducible apply ev_ge) <;> clean_wf
  | (with_reducible apply ev_eqi) <;> clean_wf
  | (with_reducible apply ev_nei) <;> clean_wf
  | (with_reducible apply ev_len) <;> clean_wf
  | (with_reducible apply ev_ixL) <;> clean_wf
  | (with_reducible apply ev_min) <;> clean_wf
  | (with_reducible apply ev_max) <;> clean_wf
  | (with_reducible apply ev_abs) <;> clean_wf
  | (with_reducible apply ev_intB) <;> clean_wf
  | (with_reducible apply ea_1) <;> clean_wf
  | (with_reducible apply ea_2) <;> clean_wf
  | (with_reducible apply ea_3) <;> clean_wf
  | with_reducible exact ea_nil
  | (with_reducible apply ea_cons) <;> clean_wf
  | with_reducible exact el_nil
  | (with_reducible apply ep_lt) <;> clean_wf
  | (with_reducible apply ep_le) <;> clean_wf
  | (with_reducible apply ep_gt) <;> clean_wf
  | (with_reducible apply ep_ge) <;> clean_wf
  | (with_reducible apply ep_eqi) <;> clean_wf
  | (with_reducible apply ep_nei) <;> clean_wf
  | (with_reducible apply ep_not) <;> clean_wf
  | ((with_reducible apply ep_and) <;> first | (intro _; clean_wf; done) | clean_wf)
  | ((with_reducible apply ep_or) <;> first | (intro _; clean_wf; done) | clean_wf)
  | (with_reducible apply et_t) <;> clean_wf
  | (with_reducible apply eo_is) <;> clean_wf
  | with_reducible exact eo_no
  | array_get_dec
  | bv_omega
  | rfl
  | skip)
local macro_rules | `(tactic| symm_saturate) => `(tactic| first
  | ((with_reducible apply q_set); (focus (clean_wf; done)))
  | ((with_reducible apply s_set); (focus (clean_wf; done)))
  | ((with_reducible apply q_aug (hx := rfl)); (focus (clean_wf; done)))
  | ((with_reducible apply s_aug (hx := rfl)); (focus (clean_wf; done)))
  | ((with_reducible apply q_augC (hx := rfl)); (focus (clean_wf; done)))
  | ((with_reducible apply s_augC (hx := rfl)); (focus (clean_wf; done))))
local macro_rules | `(tactic| subst_eqs) => `(tactic| repeat' (first
  | with_reducible apply w_c
  | ((with_reducible apply w_v'); (focus rfl))
  | with_reducible apply w_op
  | with_reducible apply w_cb
  | with_reducible apply w_cons
  | with_reducible apply w_nil
  | with_reducible apply r_add
  | with_reducible apply r_sub
  | ((with_reducible apply r_mul); (focus (bv_omega; done)))
  | ((with_reducible apply r_div); (focus (bv_omega; done)))
  | ((with_reducible apply r_mod); (focus (bv_omega; done)))
  | ((with_reducible apply r_pow); (focus (bv_omega; done)))
  | with_reducible apply r_lt
  | with_reducible apply r_le
  | with_reducible apply r_gt
  | with_reducible apply r_ge
  | with_reducible apply r_min
  | with_reducible apply r_max
  | with_reducible apply r_intB
  | ((with_reducible apply r_len); (focus (array_get_dec; done)))
  | with_reducible apply w_callW
  | with_reducible apply q_setW
  | with_reducible apply s_setW
  | with_reducible apply s_retW))

/-! ### things that may be papers -/
def NoTu (K : PySem.W.Frag) (H : Hp) (v : V) : Prop := ∃ t, TyW K H v (.type t) ∧ kitB t "tuple" = some false
def NoPt (K : PySem.W.Frag) (H : Hp) (v : V) : Prop := NoIn K H v ∨ ∃ c, v = .bl c
/-- no tuple of two whole numbers -/
def BadI (K : PySem.W.Frag) (H : Hp) (v : V) : Prop := NoTu K H v ∨ ∃ (a : Addr) (xs : List V), v = .ref a ∧ H a = some (.tup xs) ∧ (xs.length ≠ 2 ∨ ∃ x y, xs = [x, y] ∧ ((∃ i : Int, x = .int i) ∨ NoPt K H x) ∧ ((∃ i : Int, y = .int i) ∨ NoPt K H y) ∧ (NoPt K H x ∨ NoPt K H y))
def Itm (K : PySem.W.Frag) (H : Hp) (v : V) : Option (Int × Int) → Prop
  | some q => ∃ b, v = .ref b ∧ H b = some (.tup (pvals q))
  | none => BadI K H v
def Pap (K : PySem.W.Frag) (H : Hp) (v : V) : Option (List (Option (Int × Int))) → Prop
  | none => NoLi K H v
  | some os => ∃ (a : Addr) (xs : List V), v = .ref a ∧ H a = some (.lst xs) ∧ xs.length = os.length ∧ ∀ (j : Nat) (x : V) (o : Option (Int × Int)), xs[j]? = some x → os[j]? = some o → Itm K H x o
section
variable {K : PySem.W.Frag} {H H' : Hp} {v : V}
theorem NoIn.exZ (h : NoIn K H v) (e : Ex H H') : NoIn K H' v := by
  obtain ⟨t, ty, k⟩ := h
  exact ⟨t, tyw_ex e ty, k⟩
theorem NoPt.ex (h : NoPt K H v) (e : Ex H H') : NoPt K H' v := h.elim (fun z => .inl (z.exZ e)) .inr
theorem BadI.ex (h : BadI K H v) (e : Ex H H') : BadI K H' v := by
  rcases h with ⟨t, ty, k⟩ | ⟨a, xs, rfl, ha, h | ⟨x, y, rfl, hx, hy, h⟩⟩
  · exact .inl ⟨t, tyw_ex e ty, k⟩
  · exact .inr ⟨a, xs, rfl, e _ _ ha, .inl h⟩
  · exact .inr ⟨a, _, rfl, e _ _ ha, .inr ⟨x, y, rfl, hx.elim .inl fun z => .inr (z.ex e), hy.elim .inl fun z => .inr (z.ex e), h.elim (fun z => .inl (z.ex e)) fun z => .inr (z.ex e)⟩⟩
theorem Itm.ex {o : Option (Int × Int)} (h : Itm K H v o) (e : Ex H H') : Itm K H' v o := by
  cases o with
  | none => exact BadI.ex h e
  | some q => obtain ⟨b, h1, h2⟩ := h; exact ⟨b, h1, e _ _ h2⟩
theorem rx_int {i j : Int} {Q : VK} (q : Q (.bl (!decide (i = j))) H) : rNeX K (.int i) (.int j) H Q := .inl ⟨.int i, .int j, .int i, .int j, by simp [SeqAt.shaped, PyData.canLay0, PyData.depth], by simp [SeqAt.shaped, PyData.canLay0, PyData.depth], by
  have e : PyData.eqv (.int i) (.int j) = decide (i = j) := by
    unfold PyData.eqv
    by_cases h : i = j
    · simp [h]
    · simp [h]
  rw [e]; exact q⟩
/-- a part: whether it is left out -/
theorem et_part {σ : L2.St} {x : V} {n : Nat} (hv : σ[n]? = some (some x)) (h : (∃ i : Int, x = .int i) ∨ NoPt K H x) : ∃ b, EvT (tOr (tNot (tB (tCB (rIsW K) (tCons (tVar n) (tCons (tC (.ty "int")) tNil))))) (tB (tCB (rIsW K) (tCons (tVar n) (tCons (tC (.ty "bool")) tNil))))) σ H b ∧ (NoPt K H x → b = true) ∧ ((∃ i : Int, x = .int i) → b = false) := by
  rcases h with ⟨i, rfl⟩ | ⟨t, ty, k⟩ | ⟨c, rfl⟩
  · refine ⟨false, et_eq (et_or (a := false) (b := false) (et_eq (et_not (et_b (ev_isW (ev_v n hv) ev_c (.ty "int") (.inl (.base (.int i))) (kit_ty (r := true) (by decide +kernel))))) rfl) fun _ => et_b (ev_isW (ev_v n hv) ev_c (.ty "bool") (.inl (.base (.int i))) (kit_ty (r := false) (by decide +kernel)))) rfl, fun z => ?_, fun _ => rfl⟩
    rcases z with ⟨t, ty, k⟩ | ⟨c, e⟩
    · rcases ty with ty | ⟨b, e, _⟩
      · cases ty with
        | base h => cases h; revert k; decide +kernel
      · cases e
    · cases e
  · refine ⟨true, et_eq (et_or (a := true) (b := true) (et_eq (et_not (et_b (ev_isW (ev_v n hv) ev_c (.ty "int") ty (kit_ty (r := false) k)))) rfl) fun z => nomatch z) rfl, fun _ => rfl, fun ⟨i, e⟩ => ?_⟩
    subst e
    rcases ty with ty | ⟨b, e, _⟩
    · cases ty with
      | base h => cases h; revert k; decide +kernel
    · cases e
  · exact ⟨true, et_eq (et_or (a := false) (b := true) (et_eq (et_not (et_b (ev_isW (ev_v n hv) ev_c (.ty "int") (.inl (.base (.bl c))) (kit_ty (r := true) (by decide +kernel))))) rfl) fun _ => et_b (ev_isW (ev_v n hv) ev_c (.ty "bool") (.inl (.base (.bl c))) (kit_ty (r := true) (by decide +kernel)))) rfl, fun _ => rfl, fun ⟨i, e⟩ => by cases e⟩
end
/-! ### is_paper of anything -/
open Classical in
def sp_is_paperZ (K : PySem.W.Frag) : Sp := fun vs H Q _ => Nod H ∧ ∃ (a : Addr) (p : Nat) (r : List Nat) (low high : Nat) (v : V) (l : Option (List (Option (Int × Int)))), vs = [.ref a, .int (low : Int), .int (high : Int), v] ∧ RowAt H a (p :: r) ∧ PapIn p r low high ∧ Pap K H v l ∧
  Q (.bl (decide (PapOk p r low high ∧ l = some ((ppr p r low high).map some)))) H
/-- slots: row low high thing due one pair part -/
abbrev n_is_paperZ : List Str := ["row", "low", "high", "thing", "due", "one", "pair", "part"]
def t_is_paperZ (K : PySem.W.Frag) : TS := (sFg (tSeq (tAsg (tCall (sp_paper_of K) [] E0 (tCons (tVar 0) (tCons (tVar 1) (tCons (tVar 2) tNil)))) (gName 4))
  (tSeq (tIfS (tOr (tTest (tOp oIsN (tVar 4) (tC .non))) (tOr (tNot (tB (tCB (rIsW K) (tCons (tVar 3) (tCons (tC (.ty "list")) tNil))))) (tTest (tOp (rNeX K) (tCB (cLen K) (tCons (tVar 3) tNil)) (tCB (cLen K) (tCons (tVar 4) tNil)))))) (tRet (tC (.bl false))) tNext)
  (tSeq (tFor (iZip K (tCons (tVar 3) (tCons (tVar 4) tNil))) (gTup K 2 (gCons (gName 5) (gCons (gName 6) gNil))) (tSeq (tIfS (tOr (tNot (tB (tCB (rIsW K) (tCons (tVar 5) (tCons (tC (.ty "tuple")) tNil))))) (tTest (tOp (rNeX K) (tCB (cLen K) (tCons (tVar 5) tNil)) (tC (.int 2))))) (tRet (tC (.bl false))) tNext)
  (tIfS (tOr (tTest (tOp (rNeX K) (tLc (iTup K (tVar 5)) (gName 7) (tOr (tNot (tB (tCB (rIsW K) (tCons (tVar 7) (tCons (tC (.ty "int")) tNil))))) (tB (tCB (rIsW K) (tCons (tVar 7) (tCons (tC (.ty "bool")) tNil))))) (tVar 7) [7]) (tLst tNil))) (tTest (tOp (rNeX K) (tVar 5) (tVar 6)))) (tRet (tC (.bl false))) tNext)))
  (tRet (tC (.bl true)))))))
open Classical in
theorem r_is_paperZ {K : PySem.W.Frag} {vs : List V} {H : Hp} {Q : VK} {E : XK} (h : sp_is_paperZ K vs H Q E) : t_is_paperZ K { nx := fun _ H' => Q .non H', rt := Q } (start n_is_paperZ vs) H := by
  obtain ⟨nd, a, p, r, low, high, v, l, rfl, ra, i, hp, q⟩ := h
  refine fg_body (q_setW (w_callW (w_cons (w_v 0 (w_cons (w_v 1 (w_one (w_v 2 ⟨nd, a, p, r, low, high, rfl, ra, i, fun hno => ?_, fun hok pf as H1 hpf has e1 n1 pr => ?_⟩))))))))
  · rw [decide_eq_false (fun z => hno z.1)] at q
    exact q_when (b := true) (et_or (a := true) (b := true) (et_eq (et_t (ev_isN (ev_v 4))) (by simp)) fun z => nomatch z) (fun _ => s_ret ev_c ⟨H, fg_same ex_refl, q⟩) fun z => nomatch z
  generalize ppr p r low high = qs at pr q
  have out : ∀ {H2 : Hp}, Ex H H2 → l ≠ some (qs.map some) → ∃ H'', Fg H H2 H'' ∧ Q (.bl false) H'' := fun e hne => ⟨H, fg_same e, by rw [decide_eq_false (fun z => hne z.2)] at q; exact q⟩
  cases l with
  | none =>
    obtain ⟨t, ty, k⟩ := hp
    have ty1 := tyw_ex e1 ty
    exact q_when (b := true) (et_or (a := false) (b := true) (et_eq (et_t (ev_isN (x := .ref pf) (ev_v 4))) (by simp)) fun _ => et_or (a := true) (b := true) (et_eq (et_not (et_b (ev_isW (ev_v 3) ev_c (.ty "list") ty1 (kit_ty (r := false) k)))) rfl) fun z => nomatch z) (fun _ => s_ret ev_c (out e1 (by simp))) fun z => nomatch z
  | some os =>
    obtain ⟨t, xs, rfl, ht, hlen, hit⟩ := hp
    have ht1 := e1 _ _ ht
    have isl : EvT (tNot (tB (tCB (rIsW K) (tCons (tVar 3) (tCons (tC (.ty "list")) tNil))))) [some (.ref a), some (.int (low : Int)), some (.int (high : Int)), some (.ref t), some (.ref pf), none, none, none] H1 false := et_eq (et_not (et_b (ev_isW (ev_v 3) ev_c (.ty "list") (.inl (.base (.lst ht1))) (kit_ty (r := true) (by decide +kernel))))) rfl
    have lens : EvT (tTest (tOp (rNeX K) (tCB (cLen K) (tCons (tVar 3) tNil)) (tCB (cLen K) (tCons (tVar 4) tNil)))) [some (.ref a), some (.int (low : Int)), some (.int (high : Int)), some (.ref t), some (.ref pf), none, none, none] H1 (!decide ((xs.length : Int) = ((as.map V.ref).length : Int))) := et_t (ev_op (ev_len (ev_v 3) (sq_at ht1)) (ev_len (ev_v 4) (sq_at pr.lst)) fun Q z => rx_int z)
    by_cases hl : xs.length = as.length
    rotate_left
    · refine q_when (b := true) (et_or (a := false) (b := true) (et_eq (et_t (ev_isN (x := .ref pf) (ev_v 4))) (by simp)) fun _ => et_or (a := false) (b := true) isl fun _ => et_eq lens (by rw [List.length_map, decide_eq_false (fun z => hl (by omega))]; rfl)) (fun _ => s_ret ev_c (out e1 fun z => hl ?_)) fun z => nomatch z
      have z := Option.some.inj z
      rw [hlen, z, List.length_map, pr.len]
    refine q_when (b := false) (et_or (a := false) (b := false) (et_eq (et_t (ev_isN (x := .ref pf) (ev_v 4))) (by simp)) fun _ => et_or (a := false) (b := false) isl fun _ => et_eq lens (by rw [List.length_map, decide_eq_true (by omega)]; rfl)) (fun z => nomatch z) fun _ => ?_
    have o : Own H1 [] H1 := Own.nil
    refine q_seq (w_forZ (w_cons (w_v 3 (w_one (w_v 4 ⟨t, pf, _, _, rfl, sq_at ht1, sq_at pr.lst, lp_zip (xs := xs) (ys := as.map V.ref) (fun j σ' H2 => ∃ y5 y6 : Option V, σ' = [some (.ref a), some (.int (low : Int)), some (.int (high : Int)), some (.ref t), some (.ref pf), y5, y6, none] ∧ Own H1 [] H2 ∧ ∀ k, k < j → os[k]? = (qs.map some)[k]?) ⟨none, none, rfl, o, fun k hk => absurd hk (Nat.not_lt_zero _)⟩ (fun j σ' H2 _ hv => ?_) (fun j x y σ' H2 T hx hy hv hT => ?_) (fun σ' H2 hv => ?_)⟩)))))
    · obtain ⟨_, _, _, o, _⟩ := hv
      exact ⟨sq_at (o.ex _ _ ht1), sq_at (o.ex _ _ pr.lst)⟩
    · clear o
      obtain ⟨y5, y6, rfl, o, hall⟩ := hv
      obtain ⟨c, z, h4, rfl, h5, h6⟩ := pr.get hy
      have hj : j < os.length := by rw [← hlen]; exact (List.getElem?_eq_some_iff.mp hx).1
      obtain ⟨oj, hoj⟩ : ∃ oj, os[j]? = some oj := ⟨_, List.getElem?_eq_getElem hj⟩
      have it := ((hit j x oj hx hoj).ex (ex_trans e1 o.ex)).ex (ex_new (o := .tup [x, .ref c]) hT)
      replace o := o.tup (xs := [x, .ref c]) hT
      have hqj : (qs.map some)[j]? = some (some z) := by rw [List.getElem?_map, h5]; rfl
      have outj : ∀ {H2 : Hp}, Ex H1 H2 → oj ≠ some z → ∃ H'', Fg H H2 H'' ∧ Q (.bl false) H'' := fun e hne => out (ex_trans e1 e) fun w => hne (by
        have w := Option.some.inj w
        rw [w, hqj] at hoj
        exact (Option.some.inj hoj).symm)
      have hc := o.ex _ _ h6
      generalize upd H2 T _ = HB at it o hc ⊢
      cases oj with
      | none =>
        have outj : ∀ {H2 : Hp}, Ex H1 H2 → ∃ H'', Fg H H2 H'' ∧ Q (.bl false) H'' := fun e => outj e (by simp)
        rcases it with ⟨t', ty, k⟩ | ⟨b, ps, rfl, hb, h2 | ⟨x1, y1, rfl, hx1, hy1, hbad⟩⟩
        · exact q_when (b := true) (et_or (a := true) (b := true) (et_eq (et_not (et_b (ev_isW (ev_v 5) ev_c (.ty "tuple") ty (kit_ty (r := false) k)))) rfl) fun z => nomatch z) (fun _ => s_ret ev_c (outj o.ex)) fun z => nomatch z
        · exact q_when (b := true) (et_or (a := false) (b := true) (et_eq (et_not (et_b (ev_isW (ev_v 5) ev_c (.ty "tuple") (.inl (.base (.tup hb))) (kit_ty (r := true) (by decide +kernel))))) rfl) fun _ => et_eq (et_t (ev_op (ev_lenT (ev_v 5) (st_at hb)) ev_c fun Q z => rx_int (j := 2) z)) (by rw [decide_eq_false (by omega)]; rfl)) (fun _ => s_ret ev_c (outj o.ex)) fun z => nomatch z
        · refine q_when (b := false) (et_or (a := false) (b := false) (et_eq (et_not (et_b (ev_isW (ev_v 5) ev_c (.ty "tuple") (.inl (.base (.tup hb))) (kit_ty (r := true) (by decide +kernel))))) rfl) fun _ => et_eq (et_t (ev_op (ev_lenT (ev_v 5) (st_at hb)) ev_c fun Q z => rx_int (j := 2) z)) (by simp)) (fun z => nomatch z) fun _ => ?_
          have kinds : ∀ (i : Nat) (w : V), [x1, y1][i]? = some w → (∃ n : Int, w = .int n) ∨ NoPt K HB w := fun i w hw => by
            match i, hw with
            | 0, hw => cases hw; exact hx1
            | 1, hw => cases hw; exact hy1
          refine s_ifW (w_or (w_tst (w_op (w_lcT (xs := [x1, y1]) (ev_v 5) (st_at hb) (fun D j H3 => ∃ acc : List V, Own H1 [(D, acc)] H3 ∧ Ex HB H3 ∧ acc.length ≤ j ∧ ∀ (i : Nat) (w : V), i < j → [x1, y1][i]? = some w → NoPt K HB w → acc ≠ []) (fun D hD => ⟨[], o.new hD, ex_new hD, Nat.le_refl _, fun i w hi => absurd hi (Nat.not_lt_zero _)⟩) (fun D j H3 hD hv => ?_) (fun _ => rfl) (fun D j' w H3 hD hw hv => ?_) fun D H3 hD hv => ?_))))
          · obtain ⟨acc, o3, e3, _⟩ := hv
            exact st_at (e3 _ _ hb)
          · obtain ⟨acc, o3, e3, hal, hacc⟩ := hv
            have hj2 : j' < 2 := (List.getElem?_eq_some_iff.mp hw).1
            obtain ⟨bb, hbb, hyes, hno⟩ := et_part (K := K) (H := H3) (σ := [some (.ref a), some (.int (low : Int)), some (.int (high : Int)), some (.ref t), some (.ref pf), some (.ref b), some (.ref c), some w]) (n := 7) rfl ((kinds j' w hw).elim .inl fun z => .inr (z.ex e3))
            refine w_evT hbb ?_
            cases bb with
            | true => exact iteT (w_v 7 ⟨acc, o3.atI 0 rfl, szl (by omega), acc ++ [w], o3.mut 0 rfl, ex_upd hD e3, by rw [List.length_append, List.length_singleton]; omega, fun i u hi hu hn => by simp⟩)
            | false => exact iteF ⟨acc, o3, e3, by omega, fun i u hi hu hn => by
                rcases Nat.lt_or_ge i j' with z | z
                · exact hacc i u z hu hn
                · have e : i = j' := by omega
                  rw [e, hw] at hu
                  cases hu
                  exact absurd (hyes (hn.ex e3)) (by simp)⟩
          · obtain ⟨acc, o3, e3, hal, hacc⟩ := hv
            have hne : acc ≠ [] := by
              rcases hbad with h | h
              · exact hacc 0 x1 (by simp) rfl h
              · exact hacc 1 y1 (by simp) rfl h
            refine el_nil _ fun p3 hp3 => .inr (.inl ⟨D, p3, acc, [], rfl, rfl, sq_new hp3 (o3.sqi 0 rfl), sq_up, by simpa using hne, _, rfl, ?_⟩)
            exact iteT (s_ret ev_c (outj ((o3.tmp (xs := []) hp3).ex)))
      | some q' =>
        obtain ⟨b, rfl, hb⟩ := it
        refine q_when (b := false) (et_or (a := false) (b := false) (et_eq (et_not (et_b (ev_isW (ev_v 5) ev_c (.ty "tuple") (.inl (.base (.tup hb))) (kit_ty (r := true) (by decide +kernel))))) rfl) fun _ => et_eq (et_t (ev_op (ev_lenT (ev_v 5) (st_at hb)) ev_c fun Q z => rx_int (j := 2) z)) (by simp)) (fun z => nomatch z) fun _ => ?_
        refine s_ifW (w_or (w_tst (w_op (w_lcT (xs := pvals q') (ev_v 5) (st_at hb) (fun D j H3 => Own H1 [(D, [])] H3 ∧ Ex HB H3) (fun D hD => ⟨o.new hD, ex_new hD⟩) (fun D j H3 hD hv => st_at (hv.2 _ _ hb)) (fun _ => rfl) (fun D j' w H3 hD hw hv => ?_) fun D H3 hD hv => ?_))))
        · obtain ⟨k, rfl⟩ : ∃ k : Int, w = .int k := by
            have hlt : j' < 2 := (List.getElem?_eq_some_iff.mp hw).1
            rcases (by omega : j' = 0 ∨ j' = 1) with rfl | rfl
            · cases hw; exact ⟨_, rfl⟩
            · cases hw; exact ⟨_, rfl⟩
          obtain ⟨bb, hbb, _, hno⟩ := et_part (K := K) (H := H3) (σ := [some (.ref a), some (.int (low : Int)), some (.int (high : Int)), some (.ref t), some (.ref pf), some (.ref b), some (.ref c), some (.int k)]) (n := 7) rfl (.inl ⟨k, rfl⟩)
          rw [hno ⟨k, rfl⟩] at hbb
          exact w_evT hbb (iteF hv)
        · obtain ⟨o3, e3⟩ := hv
          refine el_nil _ fun p3 hp3 => .inl (rv_neI (ns := []) (ms := []) (sq_new hp3 (o3.sqi 0 rfl)) sq_up _ ⟨_, rfl, ?_⟩)
          have o4 := (o3.tmp (xs := []) hp3).drop1
          have e4 := ex_trans e3 (ex_new (o := .lst []) hp3)
          rw [decide_eq_true rfl]
          refine iteF (w_evT (b := !decide (q' = z)) (et_t (ev_op (ev_v 5) (ev_v 6) fun Q w => .inl (rv_neT (e4 _ _ hb) (e4 _ _ hc) Q w))) ?_)
          by_cases hz : q' = z
          · rw [decide_eq_true hz]
            exact iteF ⟨_, _, rfl, o4, fun k hk => by
              rcases Nat.lt_or_ge k j with w | w
              · exact hall k w
              · have e : k = j := by omega
                rw [e, hoj, hqj, hz]⟩
          · rw [decide_eq_false hz]
            exact iteT (s_ret ev_c (outj o4.ex fun w => hz (Option.some.inj w)))
    · obtain ⟨y5, y6, rfl, o, hall⟩ := hv
      have e : os = qs.map some := by
        refine List.ext_getElem? fun k => ?_
        rcases Nat.lt_or_ge k (min xs.length (as.map V.ref).length) with w | w
        · exact hall k w
        · rw [List.length_map, ← hl] at w
          rw [List.getElem?_eq_none (by omega), List.getElem?_eq_none (by rw [List.length_map, ← pr.len]; omega)]
      have yes : PapOk p r low high ∧ some os = some (qs.map some) := ⟨hok, by rw [e]⟩
      rw [decide_eq_true yes] at q
      dsimp only
      exact s_ret ev_c ⟨H, fg_same (ex_trans e1 o.ex), q⟩
end Px
set_option Elab.async false
set_option linter.all false
set_option maxRecDepth 100000
set_option maxHeartbeats 4000000
namespace Px
open PySem PySem.Spec PyProof.Rows L2
/-! ### defs that are called where no list or tuple is being shown (repr asks for it) -/
def Calm (A : Around) : Prop := A.guards = some []
structure FnG (P : Program) (w : World) (K : PySem.W.Frag) (mg : Str → Option Value) (base : Heap) (k : Nat) (f : Addr) (fd : FuncData) (ps : List Str) (sp : Sp) : Prop where
  len : ∀ vs H Q E, sp vs H Q E → vs.length = ps.length
  go : ∀ {A : Around} {outer : List Env} {s : Shared} {H : Hp} {args : Args} {us : List Value} {vs : List V} {Q : VK} {E : XK}, Room k A → Calm A → Env0 P w K mg base A outer s H → BindsTo s fd args (ps.zip us) → Vals vs us → sp vs H Q E → codeAny (model P w) A (.call (.ref f) args) (CR CX0 outer P w H s Q E) s
theorem FnG.of {P : Program} {w : World} {K : PySem.W.Frag} {mg : Str → Option Value} {base : Heap} {k : Nat} {f : Addr} {fd : FuncData} {ps : List Str} {sp : Sp} (F : FnOk P w K mg base CX0 k f fd ps sp) : FnG P w K mg base k f fd ps sp :=
  ⟨F.len, fun r _ e b v h => F.run _ _ _ _ _ _ _ _ _ r e b v h⟩
/-- by its body -/
theorem gn_of {P : Program} {w : World} {K : PySem.W.Frag} {mg : Str → Option Value} {base : Heap} {k : Nat} {f : Addr} {x q : Str} {ar : Arguments} {bd : List Stmt} {sc : Scope} {dv : List V} {kw : List (Str × V)} {fd : FuncData} {N ps : List Str} {sp : Sp}
    (F : FunD K x q ar bd sc dv kw f fd) (S : FnScope N ps sc) (len : ∀ vs H Q E, sp vs H Q E → vs.length = ps.length)
    (walk : ∀ (cd : Value) (A : Around) (outer : List Env) (s : Shared) (H : Hp) (vs : List V) (Q : VK) (E : XK), Room k (A.deeper (envOfC q sc s.heap.objs.size f cd)) → Calm (A.deeper (envOfC q sc s.heap.objs.size f cd)) → sp vs H Q E →
      ∃ t, PSs (cxOf CX0 P w K mg base N q sc f cd A outer s H E) bd t ∧ t { nx := fun _ H' => Q .non H', rt := Q } (start N vs) H) : FnG P w K mg base (k + 1) f fd ps sp := by
  obtain ⟨c1, c2, d1, d2, dc, pm, an, cd, ct, sl, rfl, at_, cdIn, _, _⟩ := F.ex
  refine ⟨len, ?_⟩
  intro A outer s H args us vs Q E room calm env bind vals prom
  have inK : K.In s.heap := env.mod.kin.keeps fun b o z => (env.bs b o z).1
  have free : s.heap.NoLimit := env.mod.nolimit.keeps fun b o z => (env.bs b o z).1
  refine codeAny_call_function room.depth (inK _ _ at_) rfl S.co S.gen rfl (PySem.W.codeRec_of inK cdIn) (bind _ _ _ _ ?_)
  refine wpAny_newFunctionEnv_cells S.kind ?_ ?_
  · rintro ⟨n, v⟩ hm
    rcases S.par n (List.of_mem_zip hm).1 with z | z
    · exact Or.inl z
    · exact Or.inr ⟨z, PySem.W.cellsFrom_some _ _ _ (Or.inl z)⟩
  intro ev hev s1 st
  subst hev
  refine ⟨free.keeps st.toInCall.keep, codeAny_func ?_⟩
  obtain ⟨t, der, run⟩ := walk cd A outer s H vs Q E (room.deeper _) calm prom
  refine wpAny_mono (der.run [] s1 (start N vs) H _ (inv_start S room.hd env (len _ _ _ _ prom) vals st) run) ?_ fun _ _ z => z
  intro fl s' z
  cases fl with
  | ret u => obtain ⟨v, _, H', J, r, y⟩ := z; exact ⟨v, H', J.os, J.bare, J.base, J.hok, r, y⟩
  | next => obtain ⟨_, H', J, y⟩ := z; exact ⟨V.non, H', J.os, J.bare, J.base, J.hok, rfl, y⟩
  | brk => exact (show False from z.choose_spec.choose_spec.2).elim
  | cont => exact (show False from z.choose_spec.choose_spec.2).elim
/-- a def of the text, by its name -/
structure Gn1 (P : Program) (w : World) (K : PySem.W.Frag) (mg : Str → Option Value) (base : Heap) (x : Str) (k : Nat) (ps : List Str) (sp : Sp) : Prop where
  ex : ∃ (f : Addr) (fd : FuncData), FnG P w K mg base k f fd ps sp ∧ mg x = some (.ref f) ∧ PySem.W.keepIn K (.ref f) = true ∧ Binds K fd ps []
theorem pe_gn {X : Cx} {k : Nat} {ps : List Str} {sp : Sp} {x : Str} {p pos : Pos} {e : Expr} {es : List Expr} {t : TA} (F : Gn1 X.prog X.w X.K X.mg X.base x k ps sp) (hr : Room k X.A) (hc : Calm X.A) (ha : PA X (e :: es) t) (hg : Gl X x := by rfl)
    (hdb : (x == ("__debug__" : Str)) = false := by decide) (he : starEach (e :: es) X.env = (false, eval e X.env) :: starEach es X.env := by rfl) (hpl : (backTo pos (starEach es X.env)).any (·.1) = false := by rfl) :
    PE X (.Call (.Name x p) (e :: es) [] pos) (tCall sp [] E0 t) := by
  obtain ⟨f, fd, F1, g, kp, b⟩ := F.ex
  constructor
  intro pins s σ H Q I h
  refine wpAny_Call_Name_kw (ld_glob I hg g ?_ hdb)
  refine PySem.W.callWith_K (h₀ := X.base) I.ok.mod.kin kp (thn (ha.run pos pins s σ H _ I h) fun us s1 z => ?_) he hpl
  obtain ⟨vs, H1, I1, r, q⟩ := z
  have r2 : Vals (vs ++ []) (us ++ []) := r.append .nil
  refine ⟨I1.kIn, wpAny_call (codeAny_mono (F1.go hr hc I1.env0 (b s1 us I1.kIn (r2.length.symm.trans (F1.len _ _ _ _ q))) r2 q) ?_)⟩
  · intro rr s' z
    match rr, z with
    | .ok (.ret u), z => exact I1.after z
/-! ### repr -/
abbrev cRepr (K : PySem.W.Frag) : List V → Hp → VK → Prop := fun xs H Q => ∃ (a : Addr) (d : PyData), xs = [.ref a] ∧ Dp K H (.ref a) d ∧ d.showable = true ∧ d.hasDict = false ∧ d.depth ≤ 50 ∧ d.shown.length ≤ sizeLine ∧ Q (.str d.shown) H
theorem call_reprD {X : Cx} {k : Nat} (hr : Room k X.A) (hc : Calm X.A) : CallR X (.builtin "repr") (cRepr X.K) := by
  intro pins s σ H xs us Q I r h
  obtain ⟨a, d, rfl, hd, h1, h2, h3, h4, q⟩ := h
  cases r with
  | cons r rr =>
    cases rr
    cases r
    obtain ⟨as, rd⟩ := Dp.reads I d _ _ hd rfl
    have := hr.un
    refine repr_of_reads' rd h1 (PyData.noDict_hsm h2) hc (by omega) (fun b o z => z) (fun h' u tk hk => ?_) h4
    exact ⟨.str d.shown, H, I.kept (h' := h') (t' := tk) hk, ⟨u, rfl⟩, q⟩
/-! ### the end -/
theorem lawG {P : Program} {w : World} {K : PySem.W.Frag} {mg mb : Str → Option Value} {k : Nat} {fa a : Addr} {fd : FuncData} {x : Str} {sp : Sp} {s1 : Shared} {vs : List Value} {ns : List Int}
    (inK : K.In s1.heap) (nsM : s1.heap.Ns mainGlobals mg) (nsB : s1.heap.Ns builtinsNs mb) (boot : ∀ x : Str, x ≠ "__name__" → mb x = bootBuiltins x) (lim : s1.heap.NoLimit) (gens : s1.gens = #[])
    (ha : s1.heap.get? a = some { cls := .type "list", data := .seq vs.toArray }) (hints : IntsAre vs ns) (small : ns.length ≤ sizeLine) (room : Room k callerA)
    (F : ∀ base : Heap, K.In base → base.Ns mainGlobals mg → FnG P w K mg base k fa fd [x] sp) (bind : ∀ (s : Shared) (u : Value), BindsTo s fd ⟨[u], []⟩ [(x, u)])
    (prom : ∀ H : Hp, Only H → SqL K H a (ns.map V.int) → sp [.ref a] H (fun v _ => v = .bl true) fun _ _ _ => False) :
    codeAny (model P w) callerA (.call (.ref fa) ⟨[.ref a], []⟩) (fun r s' => r = .ok (.ret (.bool true)) ∧ OldK s1.heap s'.heap ∧ s'.os = s1.os ∧ AllBare s'.gens) s1 := by
  have rel := vals_ints hints
  have len := hints.length
  have main : ∀ H : Hp, Only H → SqL K H a (ns.map V.int) → HOk P w H s1.heap → (∀ b, H b ≠ none → b = a ∧ K.lookup a = none) → codeAny (model P w) callerA (.call (.ref fa) ⟨[.ref a], []⟩) (fun r s' => r = .ok (.ret (.bool true)) ∧ OldK s1.heap s'.heap ∧ s'.os = s1.os ∧ AllBare s'.gens) s1 := by
    intro H only sq ok just
    have off : ∀ {b : Addr}, (b = a → K.lookup a = none → False) → H b = none := fun {b} z => by
      by_cases e : H b = none
      · exact e
      · exact (z (just b e).1 (just b e).2).elim
    have low : ∀ {b : Addr} {m : Str → Option Value}, s1.heap.Ns b m → (hidT s1.heap H).Ns b m := fun {b m} z => by
      obtain ⟨o, es, ep, e, dd, r⟩ := z
      refine ⟨o, es, ep, hidT_get e (off fun e1 _ => ?_), dd, r⟩
      subst e1
      rw [ha] at e
      cases e
      cases dd
    have inB : K.In (hidT s1.heap H) := fun b o e => hidT_get (inK b o e) (off fun e1 e2 => by
      subst e1
      rw [e] at e2
      cases e2)
    have md : Mod K mg (hidT s1.heap H) := by
      obtain ⟨mc, h1, h2⟩ := lim
      exact ⟨inB, low nsM, ⟨mb, low nsB, boot⟩, mc, low h1, h2⟩
    have env : Env0 P w K mg (hidT s1.heap H) callerA [] s1 H := {
      frames := rfl
      mod := md
      bs := fun b o e => of_hidT e
      bsz := Nat.le_of_eq (hidT_size _ _)
      funs := trivial
      frf := fun b z => absurd (show b ∈ ([] : List Addr) from z) (by simp)
      hok := ok
      bare := .of_eq gens }
    refine codeAny_mono ((F _ inB (low nsM)).go (us := [.ref a]) (vs := [.ref a]) room rfl env (bind s1 (.ref a)) (.cons rfl .nil) (prom H only sq)) ?_
    intro r s' z
    match r, z with
    | .ok (.ret u), z =>
      obtain ⟨v, H', h1, h2, un, ok', rv, hv⟩ := z
      have hv : v = .bl true := hv
      subst hv
      obtain rfl : u = Value.bool true := rv
      refine ⟨rfl, OldK.of_keep ?_, h1, h2⟩
      intro b o e
      rcases only b with n | ⟨ob, xs, n⟩
      · exact un.keep b o e n (by intro z; exact absurd (show b ∈ ([] : List Addr) from z) (by simp)) (by simp)
      · have e1 := (ok b _ n).1
        have e2 := (ok' b _ (un.frzs b ob _ n)).1
        rw [e] at e1
        cases e1
        exact e2
  by_cases hk : K.lookup a = none
  · let ob : Obj := { cls := .type "list", data := .seq vs.toArray }
    have only : ∀ b, (if b = a then some (HO.frz ob (.lst (ns.map V.int))) else none) = none ∨ ∃ o xs, (if b = a then some (HO.frz ob (.lst (ns.map V.int))) else none) = some (.frz o (.lst xs)) := fun b => by
      by_cases h : b = a
      · exact Or.inr ⟨_, _, if_pos h⟩
      · exact Or.inl (if_neg h)
    refine main (fun b => if b = a then some (.frz ob (.lst (ns.map V.int))) else none) only (Or.inl (Or.inr ⟨ob, if_pos rfl⟩)) ?_ fun b z => ?_
    · intro b u z
      by_cases h : b = a
      · subst h
        have z1 := (if_pos rfl).symm.trans z
        cases z1
        exact ⟨ha, by rw [List.length_map]; exact small, vs, _, rel, ha⟩
      · have z1 := (if_neg h).symm.trans z
        cases z1
    · by_cases h : b = a
      · exact ⟨h, hk⟩
      · exact absurd (if_neg h) z
  · cases hs : K.lookup a with
    | none => exact absurd hs hk
    | some o =>
      have e := inK a o hs
      rw [ha] at e
      cases e
      refine main (fun _ => none) (fun _ => Or.inl rfl) (Or.inr ⟨_, vs.toArray, _, hs, rfl, rfl, rfl, by rw [List.size_toArray, len]; exact small, by simpa using rel⟩) (fun b u z => ?_) fun b z => absurd rfl z
      have z' : (none : Option HO) = some u := z
      cases z'
theorem walkG {l : PySem.W.OpenLaw} {n k : Nat} {q : Program} {loose : List Str} {XP : (Str → Option Value) → Heap → Prop} {YP : World → Heap → Prop} {d : DefRec} {x : Str} (hn : l.most = some n) (hn2 : n ≤ sizeLine) (hdf : d.params.defaults = []) (room : Room k callerA)
    (F : ∀ (w : World) (mg : Str → Option Value) (fa : Addr) (h : Heap), YP w h → h.Ns mainGlobals mg → mg d.name = some (.ref fa) → ∃ (K : PySem.W.Frag) (fd : FuncData) (sp : Sp), K.In h ∧ (∀ (s : Shared) (u : Value), BindsTo s fd ⟨[u], []⟩ [(x, u)]) ∧
      (∀ (H : Hp) (a : Addr) (ns : List Int), ns.length ≤ n → Only H → SqL K H a (ns.map V.int) → sp [.ref a] H (fun v _ => v = .bl true) fun _ _ _ => False) ∧ ∀ base : Heap, K.In base → base.Ns mainGlobals mg → FnG l.prog w K mg base k fa fd [x] sp) :
    PySem.W.WalkO q loose XP YP l.row.toRowW d [] (fun f vs => PySem.call f vs) := by
  refine Att.attach_call hn hdf ?_
  intro w s0 s1 mg mb fa o pm cd doc a vs ns G Y _ _ _ hmg obj hints len gens
  obtain ⟨K, fd, sp, inK, bind, prom, hF⟩ := F w mg fa _ Y G.T.g hmg
  exact lawG inK G.T.g G.T.b G.T.builtins G.T.nolimit gens obj hints (Nat.le_trans len hn2) room hF bind fun H h1 h2 => prom H a ns len h1 h2
end Px
set_option Elab.async false
set_option linter.all false
set_option maxRecDepth 100000
set_option maxHeartbeats 4000000
namespace Px
open PySem PySem.Spec PyProof.Rows L2
/-! ### sys.modules is a dict, so no list of the law lies there -/
def sysB (K : PySem.W.Frag) : Bool := match K.lookup sysModules with
  | some o => (match o.cls with
    | .type c => decide (c = "dict")
    | _ => false)
  | none => false
theorem sysB_ok {K : PySem.W.Frag} {h : Heap} (b : sysB K = true) (i : K.In h) : ∃ o, h.get? sysModules = some o ∧ o.cls = .type "dict" := by
  unfold sysB at b
  cases e : K.lookup sysModules with
  | none => rw [e] at b; cases b
  | some o =>
    rw [e] at b
    refine ⟨o, i _ _ e, ?_⟩
    dsimp only at b
    cases hc : o.cls with
    | type c => rw [hc] at b; exact congrArg Value.type (of_decide_eq_true b)
    | _ => rw [hc] at b; cases b
/-! ### data, dicts with it -/
mutual
inductive Dq (K : PySem.W.Frag) (H : Hp) : V → PyData → Prop
  | non : Dq K H .non .none
  | bl (b : Bool) : Dq K H (.bl b) (.bool b)
  | int (i : Int) : Dq K H (.int i) (.int i)
  | str (x : Str) : Dq K H (.str x) (.str x)
  | lst {a : Addr} {xs : List V} {ds : List PyData} : SqL K H a xs → DqAll K H xs ds → Dq K H (.ref a) (.list ds)
  | tup {a : Addr} {xs : List V} {ds : List PyData} : SqT K H a xs → DqAll K H xs ds → Dq K H (.ref a) (.tuple ds)
  | dK {a : Addr} {kvs : List (Key × V)} {ps : List (PyData × PyData)} : H a = some (.dK kvs) → DqAll K H (kvs.map fun p => kV p.1) (ps.map (·.1)) → DqAll K H (kvs.map (·.2)) (ps.map (·.2)) → Dq K H (.ref a) (.dict ps)
inductive DqAll (K : PySem.W.Frag) (H : Hp) : List V → List PyData → Prop
  | nil : DqAll K H [] []
  | cons {v : V} {vs : List V} {d : PyData} {ds : List PyData} : Dq K H v d → DqAll K H vs ds → DqAll K H (v :: vs) (d :: ds)
end
theorem pairs_vals {P : Program} {w : World} : ∀ {es : List DictEntry} {vs : List (Key × Value)} {kvs : List (Key × V)}, Pairs (mixKind P w) es vs → KV kvs vs → Vals (kvs.map fun p => kV p.1) (es.map (·.key)) ∧ Vals (kvs.map (·.2)) (es.map (·.val))
  | [], _, _, .nil, .nil => ⟨.nil, .nil⟩
  | e :: es, (k, v) :: vs, (k', v') :: kvs, .cons hk hv hp, .cons hr hq => by
    obtain ⟨h1, h2⟩ := pairs_vals hp hq
    obtain ⟨rfl, hr2⟩ := hr
    refine ⟨.cons ?_ h1, .cons ?_ h2⟩
    · rcases keyIs_shape hk with ⟨i, t, rfl, e2⟩ | ⟨x, t, rfl, e2⟩
      · exact ⟨t, e2⟩
      · exact ⟨t, e2⟩
    · show RelV v' e.val; rw [hv]; exact hr2
section
variable {X : Cx} {pins : List (Addr × Obj)} {σ : L2.St} {H : Hp} {s : Shared}
mutual
theorem Dq.reads (I : Inv X pins σ H s) (hS : sysB X.K = true) : ∀ {v : V} {d : PyData}, Dq X.K H v d → ∀ u, RelV v u → ∃ as, Reads s.heap u d as ∧ sysModules ∉ as
  | _, _, .non, u, r => by cases r; exact ⟨_, .none, by simp⟩
  | _, _, .bl b, u, r => by cases r; exact ⟨_, .bool b, by simp⟩
  | _, _, .int i, u, r => by obtain ⟨t, rfl⟩ := r; exact ⟨_, .int i t, by simp⟩
  | _, _, .str x, u, r => by obtain ⟨t, rfl⟩ := r; exact ⟨_, .str x t, by simp⟩
  | _, _, .lst hs ha, u, r => by
    cases r
    obtain ⟨its, rv, ⟨o, n, ho, hc, _, hd⟩, _⟩ := I.list hs
    obtain ⟨as, hr, hn⟩ := DqAll.reads I hS ha its rv
    refine ⟨_, Reads.list ho hc hd hr, fun z => ?_⟩
    rcases List.mem_cons.mp z with z | z
    · obtain ⟨o2, h2, c2⟩ := sysB_ok hS I.kIn
      rw [z, ho] at h2
      cases h2
      rw [hc] at c2
      exact absurd c2 (by decide)
    · exact hn z
  | _, _, .tup hs ha, u, r => by
    cases r
    obtain ⟨its, rv, ⟨o, ho, hc, n, hd⟩, _⟩ := I.tuple hs
    obtain ⟨as, hr, hn⟩ := DqAll.reads I hS ha its rv
    exact ⟨_, Reads.tuple ho hc hd hr, hn⟩
  | _, _, .dK (a := a) hH h1 h2, u, r => by
    cases r
    obtain ⟨_, hsm, vs, rel, o, es, ep, ho, hx, hd, _, hp, _⟩ := dk_of I.hok hH
    obtain ⟨v1, v2⟩ := pairs_vals hp rel
    obtain ⟨as, hr, hn⟩ := DqAll.reads I hS h1 _ v1
    obtain ⟨bs, hr2, hn2⟩ := DqAll.reads I hS h2 _ v2
    refine ⟨_, Reads.dict ho hx.1 hd hr hr2, fun z => ?_⟩
    rcases List.mem_append.mp z with z | z
    · rcases List.mem_cons.mp z with z | z
      · rw [z] at hsm
        simp at hsm
      · exact hn z
    · exact hn2 z
theorem DqAll.reads (I : Inv X pins σ H s) (hS : sysB X.K = true) : ∀ {vs : List V} {ds : List PyData}, DqAll X.K H vs ds → ∀ us, Vals vs us → ∃ as, ReadsAll s.heap us ds as ∧ sysModules ∉ as
  | _, _, .nil, us, r => by cases r; exact ⟨_, .nil, by simp⟩
  | _, _, .cons h1 h2, us, r => by
    cases r with
    | cons r1 r2 =>
      obtain ⟨as, q1, n1⟩ := Dq.reads I hS h1 _ r1
      obtain ⟨bs, q2, n2⟩ := DqAll.reads I hS h2 _ r2
      refine ⟨_, .cons q1 q2, fun z => ?_⟩
      rcases List.mem_append.mp z with z | z
      · exact n1 z
      · exact n2 z
end
end
/-! ### repr, str -/
def cReprQ (K : PySem.W.Frag) : List V → Hp → VK → Prop := fun xs H Q => ∃ (v : V) (d : PyData), xs = [v] ∧ Dq K H v d ∧ d.showable = true ∧ d.depth ≤ 50 ∧ d.shown.length ≤ sizeLine ∧ Q (.str d.shown) H
theorem call_reprQ {X : Cx} {k : Nat} (hS : sysB X.K = true) (hr : Room k X.A) (hc : Calm X.A) : CallR X (.builtin "repr") (cReprQ X.K) := by
  intro pins s σ H xs us Q I r h
  obtain ⟨v, d, rfl, hd, h1, h3, h4, q⟩ := h
  cases r with
  | cons r rr =>
    cases rr
    have fin : ∀ t tk, ∃ v' H', Inv X pins σ H' { s with toks := tk } ∧ RelV v' (.str d.shown t) ∧ Q v' H' := fun t tk => ⟨.str d.shown, H, I.tok _, ⟨t, rfl⟩, q⟩
    cases hd with
    | non => cases r; exact P.repr_of_none (fin _ _)
    | bl b => cases r; exact P.repr_of_bool (by cases b <;> exact fin _ _)
    | int i => obtain ⟨t, rfl⟩ := r; exact P.repr_of_int (of_decide_eq_true h1) (fin _ _)
    | str x => obtain ⟨t, rfl⟩ := r; exact P.repr_of_str (fin _ _) h4
    | lst a b =>
      cases r
      obtain ⟨as, rd, hn⟩ := Dq.reads I hS (.lst a b) _ rfl
      have := hr.un
      exact repr_of_reads' rd h1 (fun _ => hn) hc (by omega) (fun b o z => z) (fun h' u tk hk => ⟨.str _, H, I.kept (h' := h') (t' := tk) hk, ⟨u, rfl⟩, q⟩) h4
    | tup a b =>
      cases r
      obtain ⟨as, rd, hn⟩ := Dq.reads I hS (.tup a b) _ rfl
      have := hr.un
      exact repr_of_reads' rd h1 (fun _ => hn) hc (by omega) (fun b o z => z) (fun h' u tk hk => ⟨.str _, H, I.kept (h' := h') (t' := tk) hk, ⟨u, rfl⟩, q⟩) h4
    | dK a b c =>
      cases r
      obtain ⟨as, rd, hn⟩ := Dq.reads I hS (.dK a b c) _ rfl
      have := hr.un
      exact repr_of_reads' rd h1 (fun _ => hn) hc (by omega) (fun b o z => z) (fun h' u tk hk => ⟨.str _, H, I.kept (h' := h') (t' := tk) hk, ⟨u, rfl⟩, q⟩) h4
end Px
set_option Elab.async false
set_option linter.all false
set_option maxRecDepth 100000
set_option maxHeartbeats 4000000
namespace Px
open PySem L2 PySem.W
/-! ### dict(enumerate(xs)) -/
def enK {α : Type} : Nat → List α → List (Key × α)
  | _, [] => []
  | j, x :: xs => (.inl (j : Int), x) :: enK (j + 1) xs
theorem enK_len {α : Type} : ∀ (xs : List α) (j : Nat), (enK j xs).length = xs.length
  | [], _ => rfl
  | _ :: xs, j => by rw [enK, List.length_cons, enK_len xs, List.length_cons]
theorem enK_get {α : Type} : ∀ (xs : List α) (j i : Nat), (enK j xs)[i]? = (xs[i]?).map fun x => (.inl ((j + i : Nat) : Int), x)
  | [], _, _ => by simp [enK]
  | x :: xs, j, 0 => rfl
  | x :: xs, j, i + 1 => by
    rw [enK, List.getElem?_cons_succ, enK_get xs, List.getElem?_cons_succ, show j + 1 + i = j + (i + 1) by omega]
theorem enK_kv : ∀ {xs : List V} {us : List Value} {j : Nat}, Vals xs us → KV (enK j xs) (enK j us)
  | [], _, _, .nil => .nil
  | _ :: _, _, _, .cons r rr => .cons ⟨rfl, r⟩ (enK_kv rr)
def tDictEnum (K : PySem.W.Frag) (ta : TA) : TE := fun σ H Q => ta σ H fun vs H1 => ∃ a xs, vs = [.ref a] ∧ SqL K H1 a xs ∧ ∀ l, H1 l = none → Q (.ref l) (upd H1 l (.dK (mergeK [] (enK 0 xs))))
theorem pe_dictEnum {X : Cx} {e : Expr} {ta : TA} {p1 p2 pos1 pos2 : Pos} (hg1 : Gl X "dict") (hm1 : X.mg "dict" = none) (hg2 : Gl X "enumerate") (hm2 : X.mg "enumerate" = none) (hc : X.calm = true) (ha : PA X [e] ta) (hs : starEach [e] X.env = [(false, eval e X.env)] := by rfl)
    (hs2 : starEach [.Call (.Name "enumerate" p2) [e] [] pos2] X.env = [(false, eval (.Call (.Name "enumerate" p2) [e] [] pos2) X.env)] := by rfl) :
    PE X (.Call (.Name "dict" p1) [.Call (.Name "enumerate" p2) [e] [] pos2] [] pos1) (tDictEnum X.K ta) := by
  refine ⟨fun pins s σ H Q I h => ?_⟩
  refine wpAny_Call_Name_kw (ld_blt I hg1 hm1 (show bootBuiltins "dict" = some (.type "dict") by decide +kernel) ?_ (by decide) (by decide))
  refine PyProof.Rows.callWith_type1 ?_ hs2 rfl
  rw [hs2]
  refine Calls.spliced_cons (thn (Q := fun v s1 => wpAny (model X.prog X.w) X.A (call (.type "dict") [v]) (EP X pins σ Q) X.xe s1) ?_ fun v s1 h1 => Calls.spliced_nil h1)
  refine wpAny_Call_Name_kw (ld_blt I hg2 hm2 (show bootBuiltins "enumerate" = some (.type "enumerate") by decide +kernel) ?_ (by decide) (by decide))
  refine PyProof.Rows.callWith_type1 (thn (ha.run pos2 pins s σ H _ I h) fun us s1 ⟨vs, H1, I1, r1, q1⟩ => ?_) hs rfl
  obtain ⟨a, xs, ex, hq, q⟩ := q1
  subst ex
  cases r1 with
  | cons r rr =>
    cases rr
    cases r
    obtain ⟨its, rv, p', hz⟩ := I1.list hq
    refine call_enumerate_list p'.isList fun h' he hit hsz hk => ?_
    have hal : a < s1.heap.objs.size := let ⟨_, ho, _⟩ := p'.isList; Heap.lt_size ho
    have hlen : its.length ≤ sizeLine := by rw [← rv.length]; exact hz
    refine PySem.call_dict_pairs (s := { s1 with heap := h' }) (knd := mixKind X.prog X.w) (kvs := enK 0 its) (PairArg.enumerate (s1.heap.objs.size + 1) s1.heap.objs.size a (Nat.succ_ne_self _) (Nat.ne_of_lt (Nat.lt_succ_of_lt hal)) (Nat.ne_of_lt hal) its.toArray) (I1.ok.hd hc) ⟨⟨_, he⟩, hit, p'.isList.at fun o x => hk _ o x⟩ ⟨by rw [enK_len, List.size_toArray], fun i key v hr => ?_⟩ (by rw [List.size_toArray]; exact hlen) fun h2 tk hd2 hk2 => ?_
    · obtain ⟨⟨t, rfl⟩, hv⟩ := hr
      refine ⟨.inl (i : Int), ?_, ?_⟩
      · rw [enK_get, Nat.zero_add]
        have hv : its[i]? = some v := by simpa using hv
        rw [hv]; rfl
      · show Value.isInt (i : Int) (.int (i : Int) t) = true
        simp [Value.isInt]
    have hkeep : ∀ b u, s1.heap.get? b = some u → h2.get? b = some u := fun b u x => hk2 b u (fun z => by
      simp only [List.mem_cons, List.not_mem_nil, or_false] at z
      rcases z with z | z
      · exact Nat.ne_of_lt (Nat.lt_succ_of_lt (Heap.lt_size x)) z
      · exact Nat.ne_of_lt (Heap.lt_size x) z) (hk b u x)
    have hm : (h'.objs.size == sysModules) = false := beq_eq_false_iff_ne.mpr (by rw [hsz]; exact Nat.ne_of_gt (Nat.lt_of_lt_of_le I1.big (Nat.le_add_right _ _)))
    have hl2 : (mergeK [] (enK 0 xs)).length ≤ sizeLine := by
      refine Nat.le_trans (length_mergeK _ []) ?_
      rw [List.length_nil, Nat.zero_add, enK_len]
      exact hz
    exact ⟨.ref h'.objs.size, upd H1 h'.objs.size (.dK (mergeK [] (enK 0 xs))), I1.laid (a := h'.objs.size) (t' := tk) hkeep (by rw [hsz]; exact Nat.le_add_right _ _) (show ObjOk X.prog X.w _ _ _ (.dK (mergeK [] (enK 0 xs))) from ⟨hl2, hm, merged [] (enK 0 its), KV.merge (enK_kv rv) .nil, hd2⟩), rfl, q _ (I1.hok.fresh (by rw [hsz]; exact Nat.le_add_right _ _))⟩
/-! ### str of a list -/
def cStrQ (K : PySem.W.Frag) : List V → Hp → VK → Prop := fun xs H Q => ∃ (a : Addr) (d : PyData), xs = [.ref a] ∧ Dq K H (.ref a) d ∧ d.showable = true ∧ d.depth ≤ 50 ∧ d.shown.length ≤ sizeLine ∧ Q (.str d.shown) H
theorem call_strQ {X : Cx} {k : Nat} (hS : sysB X.K = true) (hr : Room k X.A) (hc : Calm X.A) : CallR X (.type "str") (cStrQ X.K) := by
  intro pins s σ H xs us Q I r h
  obtain ⟨a, d, rfl, hd, h1, h3, h4, q⟩ := h
  cases r with
  | cons r rr =>
    cases rr
    cases r
    obtain ⟨as, rd, hn⟩ := Dq.reads I hS hd _ rfl
    have := hr.un
    exact str_of_reads rd h1 (fun _ => hn) hc (by omega) (fun b o z => z) (fun h' u tk hk => ⟨.str _, H, I.kept (h' := h') (t' := tk) hk, ⟨u, rfl⟩, q⟩) h4
/-! ### the hooks -/
abbrev AlS : Type := AlL × Bool
def obsS (n : Nat) (fa : List He.Fa) (fn : List He.DefD) (ls : List (Str × List He.Dv)) (g : Addr → Option Obj) : AlS :=
  ((He.obsD fa fn (He.frG g (sysModules :: He.asD g n)), ls.all fun q => He.lstB (He.frG g (sysModules :: He.asD g n)) q.1 q.2), sysB (He.frG g (sysModules :: He.asD g n)))
def hookS (n : Nat) (fa : List He.Fa) (fn : List He.DefD) (ls : List (Str × List He.Dv)) : PySem.W.Hook where
  α := AlS
  obs := fun s => obsS n fa fn ls s.heap.get?
  val := fun _ => ((He.valD fn, true), true)
  says := fun _ h => ∃ K : PySem.W.Frag, K.In h ∧ He.SaysD fa fn K ∧ (ls.all fun q => He.lstB K q.1 q.2) = true ∧ sysB K = true
  of := fun _ _ e => ⟨_, He.frG_in, congrArg (fun z : AlS => z.1.1) e, congrArg (fun z : AlS => z.1.2) e, congrArg (fun z : AlS => z.2) e⟩
  keeps := fun _ _ _ ⟨K, hK, c1, c2, c3⟩ k => ⟨K, PySem.W.Frag.In.keeps hK k, c1, c2, c3⟩
theorem obsS_eq {n : Nat} {fa : List He.Fa} {fn : List He.DefD} {ls : List (Str × List He.Dv)} {g : Addr → Option Obj} {s : Shared} (h : ∀ a, g a = s.heap.get? a) : obsS n fa fn ls g = (hookS n fa fn ls).obs s := by
  have e : g = s.heap.get? := funext h
  subst e; rfl
end Px
set_option Elab.async false
set_option linter.all false
set_option maxRecDepth 100000
set_option maxHeartbeats 4000000
namespace Px
open PySem PySem.Spec PyProof.Rows L2
/-! ### what can be shown -/
section
variable {K : PySem.W.Frag} {H H' : Hp}
mutual
theorem Dq.ex (e : Ex H H') : ∀ {v : V} {d : PyData}, Dq K H v d → Dq K H' v d
  | _, _, .non => .non
  | _, _, .bl b => .bl b
  | _, _, .int i => .int i
  | _, _, .str x => .str x
  | _, _, .lst h a => .lst (ex_sq e h) (DqAll.ex e a)
  | _, _, .tup h a => .tup (ex_sqt e h) (DqAll.ex e a)
  | _, _, .dK h a b => .dK (e _ _ h) (DqAll.ex e a) (DqAll.ex e b)
theorem DqAll.ex (e : Ex H H') : ∀ {vs : List V} {ds : List PyData}, DqAll K H vs ds → DqAll K H' vs ds
  | _, _, .nil => .nil
  | _, _, .cons a b => .cons (Dq.ex e a) (DqAll.ex e b)
end
end
structure Sw (d : PyData) (dep w : Nat) : Prop where
  sh : d.showable = true
  dp : d.depth ≤ dep
  lv : d.leavesShort 40 = true
  wt : d.weight ≤ w
structure SwA (ds : List PyData) (dep w : Nat) : Prop where
  sh : PyData.showableAll ds = true
  dp : PyData.depthAll ds ≤ dep
  lv : PyData.leavesShortAll 40 ds = true
  wt : PyData.weightAll ds ≤ w
structure SwK (ps : List (PyData × PyData)) (dep w : Nat) : Prop where
  sh : PyData.showableKv ps = true
  dp : PyData.depthKv ps ≤ dep
  lv : PyData.leavesShortKv 40 ps = true
  wt : PyData.weightKv ps ≤ w
theorem sw_non : Sw .none 0 0 := ⟨by simp [PyData.showable], by simp [PyData.depth], by simp [PyData.leavesShort], by simp [PyData.weight]⟩
theorem sw_bl {b : Bool} : Sw (.bool b) 0 0 := ⟨by simp [PyData.showable], by simp [PyData.depth], by simp [PyData.leavesShort], by simp [PyData.weight]⟩
theorem sw_int {i : Int} (h : i.natAbs < 10 ^ 38) : Sw (.int i) 0 130 := by
  have hl : i.natAbs ≠ 0 → i.natAbs.log2 < 129 := fun z => (Nat.log2_lt z).mpr (Nat.lt_trans h (by decide))
  have hl' : i.natAbs.log2 < 129 := by
    by_cases z : i.natAbs = 0
    · rw [z]; decide
    · exact hl z
  refine ⟨?_, by simp [PyData.depth], ?_, ?_⟩
  · simp only [PyData.showable, decide_eq_true_eq]; omega
  · simp only [PyData.leavesShort, decide_eq_true_eq]
    show (Str.ofString (toString i)).length ≤ 40
    rw [PySem.ofString_length]
    have := int_text_length_le10 (k := 38) (by decide) h
    omega
  · simp only [PyData.weight]
    split <;> omega
theorem sw_str {x : Str} (h : ∀ c ∈ x.cps.toList, c < 16 ^ 8) : Sw (.str x) 0 x.length := ⟨by simp [PyData.showable], by simp [PyData.depth], by simp only [PyData.leavesShort, List.all_eq_true, decide_eq_true_eq]; exact h, by simp [PyData.weight, Str.length]⟩
theorem sw_nil {dep : Nat} : SwA [] dep 0 := ⟨by simp [PyData.showableAll], by simp [PyData.depthAll], by simp [PyData.leavesShortAll], by simp [PyData.weightAll]⟩
theorem sw_cons {d : PyData} {ds : List PyData} {dep w1 w2 : Nat} (h : Sw d dep w1) (g : SwA ds dep w2) : SwA (d :: ds) dep (w1 + 1 + w2) :=
  ⟨by simp [PyData.showableAll, h.sh, g.sh], by have h1 := h.dp; have h2 := g.dp; simp only [PyData.depthAll]; omega, by simp [PyData.leavesShortAll, h.lv, g.lv], by have h1 := h.wt; have h2 := g.wt; simp only [PyData.weightAll]; omega⟩
theorem sw_list {ds : List PyData} {dep w : Nat} (h : SwA ds dep w) : Sw (.list ds) (dep + 1) w := ⟨by simp [PyData.showable, h.sh], by have := h.dp; simp only [PyData.depth]; omega, by simp [PyData.leavesShort, h.lv], by have := h.wt; simp only [PyData.weight]; omega⟩
theorem sw_tup {ds : List PyData} {dep w : Nat} (h : SwA ds dep w) : Sw (.tuple ds) (dep + 1) w := ⟨by simp [PyData.showable, h.sh], by have := h.dp; simp only [PyData.depth]; omega, by simp [PyData.leavesShort, h.lv], by have := h.wt; simp only [PyData.weight]; omega⟩
theorem swk_nil {dep : Nat} : SwK [] dep 0 := ⟨by simp [PyData.showableKv], by simp [PyData.depthKv], by simp [PyData.leavesShortKv], by simp [PyData.weightKv]⟩
theorem swk_cons {k v : PyData} {ps : List (PyData × PyData)} {dep w1 w2 w3 : Nat} (h : Sw k dep w1) (h' : Sw v dep w2) (g : SwK ps dep w3) : SwK ((k, v) :: ps) dep (w1 + w2 + 2 + w3) :=
  ⟨by simp [PyData.showableKv, h.sh, h'.sh, g.sh], by have h1 := h.dp; have h2 := g.dp; have h3 := h'.dp; simp only [PyData.depthKv]; omega, by simp [PyData.leavesShortKv, h.lv, h'.lv, g.lv], by have h1 := h.wt; have h2 := g.wt; have h3 := h'.wt; simp only [PyData.weightKv]; omega⟩
theorem sw_dict {ps : List (PyData × PyData)} {dep w : Nat} (h : SwK ps dep w) : Sw (.dict ps) (dep + 1) w := ⟨by simp [PyData.showable, h.sh], by have := h.dp; simp only [PyData.depth]; omega, by simp [PyData.leavesShort, h.lv], by have := h.wt; simp only [PyData.weight]; omega⟩
theorem Sw.more {d : PyData} {dep dep' w w' : Nat} (h : Sw d dep w) (h1 : dep ≤ dep') (h2 : w ≤ w') : Sw d dep' w' := ⟨h.sh, Nat.le_trans h.dp h1, h.lv, Nat.le_trans h.wt h2⟩
theorem SwA.more {d : List PyData} {dep dep' w w' : Nat} (h : SwA d dep w) (h1 : dep ≤ dep') (h2 : w ≤ w') : SwA d dep' w' := ⟨h.sh, Nat.le_trans h.dp h1, h.lv, Nat.le_trans h.wt h2⟩
theorem SwA.app {a b : List PyData} {dep w1 w2 : Nat} : SwA a dep w1 → SwA b dep w2 → SwA (a ++ b) dep (w1 + w2) := by
  intro h g
  induction a generalizing w1 with
  | nil => exact g.more (Nat.le_refl _) (Nat.le_add_left _ _)
  | cons x r ih =>
    have h1 := h.sh; have h2 := h.dp; have h3 := h.lv; have h4 := h.wt
    simp only [PyData.showableAll, Bool.and_eq_true] at h1
    simp only [PyData.depthAll] at h2
    simp only [PyData.leavesShortAll, Bool.and_eq_true] at h3
    simp only [PyData.weightAll] at h4
    have := ih (w1 := PyData.weightAll r) ⟨h1.2, by omega, h3.2, Nat.le_refl _⟩
    exact (sw_cons (⟨h1.1, by omega, h3.1, Nat.le_refl _⟩ : Sw x dep x.weight) this).more (Nat.le_refl _) (by omega)
theorem sw_fits {d : PyData} {dep w : Nat} (h : Sw d dep w) (h2 : w ≤ 350000) : d.shown.length ≤ sizeLine := by
  have h1 := PyData.shown_le 40 (by decide) d h.lv
  have h3 := h.wt
  rw [sizeLine_eq]
  omega
/-- it can be shown -/
def Shn (K : PySem.W.Frag) (H : Hp) (v : V) (d : PyData) : Prop := Dq K H v d ∧ d.showable = true ∧ d.depth ≤ 50 ∧ d.shown.length ≤ sizeLine
theorem Shn.ex {K : PySem.W.Frag} {H H' : Hp} {v : V} {d : PyData} (h : Shn K H v d) (e : Ex H H') : Shn K H' v d := ⟨h.1.ex e, h.2⟩
theorem shn {K : PySem.W.Frag} {H : Hp} {v : V} {d : PyData} {dep w : Nat} (h : Dq K H v d) (s : Sw d dep w) (h1 : dep ≤ 50 := by decide) (h2 : w ≤ 350000 := by omega) : Shn K H v d := ⟨h, s.sh, Nat.le_trans s.dp h1, sw_fits s h2⟩
theorem w_reprQ {K : PySem.W.Frag} {H : Hp} {v : V} {d : PyData} {Q : VK} (h : Shn K H v d) (q : Q (.str d.shown) H) : cReprQ K [v] H Q := ⟨v, d, rfl, h.1, h.2.1, h.2.2.1, h.2.2.2, q⟩
/-! ### small signs -/
def Sml (x : Str) : Prop := ∀ c ∈ x.cps.toList, c < 16 ^ 8
theorem sml_of (s : String) : Sml (Str.ofString s) := by
  intro c hc
  rw [Str.ofString_eq_toList] at hc
  simp only [List.mem_map] at hc
  obtain ⟨ch, _, rfl⟩ := hc
  have : ch.toNat < 1114112 := by
    have := ch.valid
    rcases this with h | h
    · have : ch.val.toNat < 55296 := h
      show ch.val.toNat < _
      omega
    · have : ch.val.toNat < 1114112 := h.2
      exact this
  omega
theorem sml_app {x y : Str} (h : Sml x) (g : Sml y) : Sml (x ++ y) := fun c hc => by
  have e : (x ++ y).cps = x.cps ++ y.cps := rfl
  rw [e, Array.toList_append, List.mem_append] at hc
  exact hc.elim (h c) (g c)
theorem sml_from : ∀ (ts : List Str) (k : Nat) (acc : Str), Sml acc → (∀ t ∈ ts, Sml t) → Sml (textFrom k acc ts)
  | [], _, acc, h, _ => h
  | t :: ts, k, acc, h, g => sml_from ts (k + 1) _ (sml_app (sml_app h (sml_of _)) (g t List.mem_cons_self)) fun u hu => g u (List.mem_cons_of_mem _ hu)
theorem sml_ints : ∀ (ns : List Int), ∀ t ∈ PyData.shownAll (ns.map PyData.int), Sml t
  | [], t, h => by simp [PyData.shownAll] at h
  | n :: ns, t, h => by
    simp only [List.map_cons, PyData.shownAll, List.mem_cons] at h
    rcases h with rfl | h
    · exact sml_of _
    · exact sml_ints ns t h
theorem sml_list (ns : List Int) : Sml (PyData.list (ns.map PyData.int)).shown := by
  simp only [PyData.shown]
  exact sml_app (sml_from _ _ _ (sml_of _) (sml_ints ns)) (sml_of _)
theorem swa_ints : ∀ (ns : List Int), (∀ n ∈ ns, n.natAbs < 10 ^ 38) → SwA (ns.map PyData.int) 0 (131 * ns.length)
  | [], _ => sw_nil
  | n :: ns, h => (sw_cons (sw_int (h n List.mem_cons_self)) (swa_ints ns fun m hm => h m (List.mem_cons_of_mem _ hm))).more (Nat.le_refl _) (by rw [List.length_cons]; omega)
theorem dqa_ints {K : PySem.W.Frag} {H : Hp} : ∀ (ns : List Int), DqAll K H (ns.map V.int) (ns.map PyData.int)
  | [] => .nil
  | n :: ns => .cons (.int n) (dqa_ints ns)
/-! ### dicts of numbers -/
def kD : Key → PyData
  | .inl i => .int i
  | .inr x => .str x
theorem dq_key {K : PySem.W.Frag} {H : Hp} (k : Key) : Dq K H (kV k) (kD k) := by cases k <;> constructor
theorem merge_all {Pk : Key → Prop} {Pv : V → Prop} : ∀ (l acc : List (Key × V)), (∀ p ∈ acc, Pk p.1 ∧ Pv p.2) → (∀ p ∈ l, Pk p.1 ∧ Pv p.2) → ∀ p ∈ mergeK acc l, Pk p.1 ∧ Pv p.2
  | [], acc, h, _ => h
  | q :: l, acc, h, g => by
    refine merge_all l (putK acc q.1 q.2) (fun p hp => ?_) fun p hp => g p (List.mem_cons_of_mem _ hp)
    have hq := g q List.mem_cons_self
    unfold putK at hp
    split at hp
    · obtain ⟨r, hr, rfl⟩ := List.mem_map.mp hp
      split
      · exact ⟨(h r hr).1, hq.2⟩
      · exact h r hr
    · rcases List.mem_append.mp hp with hp | hp
      · exact h p hp
      · rw [List.mem_singleton.mp hp]; exact hq
theorem enK_all {Pv : V → Prop} : ∀ (xs : List V) (j : Nat), (∀ x ∈ xs, Pv x) → j + xs.length ≤ 100000 → ∀ p ∈ enK j xs, (∃ i : Int, p.1 = .inl i ∧ i.natAbs < 10 ^ 38) ∧ Pv p.2
  | [], _, _, _, p, h => by simp [enK] at h
  | x :: xs, j, h, hl, p, hp => by
    rw [List.length_cons] at hl
    rw [enK, List.mem_cons] at hp
    rcases hp with rfl | hp
    · exact ⟨⟨_, rfl, by omega⟩, h x List.mem_cons_self⟩
    · exact enK_all xs (j + 1) (fun y hy => h y (List.mem_cons_of_mem _ hy)) (by omega) p hp
theorem shn_dict {K : PySem.W.Frag} {H : Hp} {a : Addr} {ns : List Int} (ha : H a = some (.dK (mergeK [] (enK 0 (ns.map V.int))))) (hn : ∀ n ∈ ns, n.natAbs < 10 ^ 38) (hl : ns.length ≤ 1000) : ∃ d, Shn K H (.ref a) d := by
  have hk : ∀ p ∈ mergeK [] (enK 0 (ns.map V.int)), (∃ i : Int, p.1 = .inl i ∧ i.natAbs < 10 ^ 38) ∧ ∃ i : Int, p.2 = .int i ∧ i.natAbs < 10 ^ 38 := merge_all (Pk := fun k => ∃ i : Int, k = .inl i ∧ i.natAbs < 10 ^ 38) (Pv := fun v => ∃ i : Int, v = .int i ∧ i.natAbs < 10 ^ 38) (enK 0 (ns.map V.int)) [] (fun p hp => (List.not_mem_nil hp).elim) (enK_all (Pv := fun v => ∃ i : Int, v = .int i ∧ i.natAbs < 10 ^ 38) (ns.map V.int) 0 (fun x hx => by
    obtain ⟨i, hi, rfl⟩ := List.mem_map.mp hx
    exact ⟨i, rfl, hn i hi⟩) (by rw [List.length_map]; omega))
  have hlen : (mergeK [] (enK 0 (ns.map V.int))).length ≤ 1000 := by
    refine Nat.le_trans (length_mergeK _ []) ?_
    rw [List.length_nil, Nat.zero_add, enK_len, List.length_map]; exact hl
  generalize mergeK [] (enK 0 (ns.map V.int)) = kvs at ha hk hlen
  have key : ∀ l : List (Key × V), (∀ p ∈ l, (∃ i : Int, p.1 = .inl i ∧ i.natAbs < 10 ^ 38) ∧ ∃ i : Int, p.2 = .int i ∧ i.natAbs < 10 ^ 38) → ∃ ps : List (PyData × PyData), DqAll K H (l.map fun p => kV p.1) (ps.map (·.1)) ∧ DqAll K H (l.map (·.2)) (ps.map (·.2)) ∧ SwK ps 0 (262 * l.length) := by
    intro l
    induction l with
    | nil => exact fun _ => ⟨[], .nil, .nil, swk_nil⟩
    | cons p l ih =>
      intro h
      obtain ⟨ps, h1, h2, h3⟩ := ih fun q hq => h q (List.mem_cons_of_mem _ hq)
      obtain ⟨⟨i, e1, b1⟩, ⟨j, e2, b2⟩⟩ := h p List.mem_cons_self
      refine ⟨(.int i, .int j) :: ps, ?_, ?_, ⟨(swk_cons (sw_int b1) (sw_int b2) h3).sh, (swk_cons (sw_int b1) (sw_int b2) h3).dp, (swk_cons (sw_int b1) (sw_int b2) h3).lv, ?_⟩⟩
      · rw [List.map_cons, List.map_cons, e1]
        exact .cons (.int i) h1
      · rw [List.map_cons, List.map_cons, e2]
        exact .cons (.int j) h2
      · have := (swk_cons (sw_int b1) (sw_int b2) h3).wt
        rw [List.length_cons]
        omega
  obtain ⟨ps, h1, h2, h3⟩ := key kvs hk
  exact ⟨.dict ps, shn (.dK ha h1 h2) (sw_dict h3)⟩
end Px
set_option Elab.async false
set_option linter.all false
set_option maxRecDepth 100000
set_option maxHeartbeats 4000000
namespace Px
open PySem L2 MA
local macro_rules | `(tactic| bv_omega) => `(tactic| first | assumption | omega | exact cm (by omega) | exact cd (by omega) | exact cp (by omega) | exact trivial)
local macro_rules | `(tactic| array_get_dec) => `(tactic| first
  | assumption
  | exact sq_up
  | exact Own.sqi (by assumption) 0 (by rfl)
  | exact Own.sqi (by assumption) 1 (by rfl)
  | exact Own.sqi (by assumption) 2 (by rfl)
  | exact Own.sqi (by assumption) 3 (by rfl)
  | exact Own.sqi (by assumption) 4 (by rfl)
  | exact Own.sq (by assumption) (by assumption)
  | exact sq_new (by assumption) (by assumption))
local macro_rules | `(tactic| clean_wf) => `(tactic| first
  | with_reducible exact ev_c
  | (with_reducible apply ev_v') <;> rfl
  | (with_reducible apply ev_add) <;> clean_wf
  | (with_reducible apply ev_sub) <;> clean_wf
  | (with_reducible apply ev_mul) <;> clean_wf
  | (with_reducible apply ev_mod) <;> clean_wf
  | (with_reducible apply ev_div) <;> clean_wf
  | (with_reducible apply ev_pow) <;> clean_wf
  | (with_reducible apply ev_neg) <;> clean_wf
  | (with_reducible apply ev_lt) <;> clean_wf
  | (with_reducible apply ev_le) <;> clean_wf
  | (with_reducible apply ev_gt) <;> clean_wf
  | (with_reducible apply ev_ge) <;> clean_wf
  | (with_reducible apply ev_eqi) <;> clean_wf
  | (with_reducible apply ev_nei) <;> clean_wf
  | (with_reducible apply ev_len) <;> clean_wf
  | (with_reducible apply ev_ixL) <;> clean_wf
  | (with_reducible apply ev_min) <;> clean_wf
  | (with_reducible apply ev_max) <;> clean_wf
  | (with_reducible apply ev_abs) <;> clean_wf
  | (with_reducible apply ev_intB) <;> clean_wf
  | (with_reducible apply ea_1) <;> clean_wf
  | (with_reducible apply ea_2) <;> clean_wf
  | (with_reducible apply ea_3) <;> clean_wf
  | with_reducible exact ea_nil
  | (with_reducible apply ea_cons) <;> clean_wf
  | with_reducible exact el_nil
  | (with_reducible apply ep_lt) <;> clean_wf
  | (with_reducible apply ep_le) <;> clean_wf
  | (with_reducible apply ep_gt) <;> clean_wf
  | (with_reducible apply ep_ge) <;> clean_wf
  | (with_reducible apply ep_eqi) <;> clean_wf
  | (with_reducible apply ep_nei) <;> clean_wf
  | (with_reducible apply ep_not) <;> clean_wf
  | ((with_reducible apply ep_and) <;> first | (intro _; clean_wf; done) | clean_wf)
  | ((with_reducible apply ep_or) <;> first | (intro _; clean_wf; done) | clean_wf)
  | (with_reducible apply et_t) <;> clean_wf
  | (with_reducible apply eo_is) <;> clean_wf
  | with_reducible exact eo_no
  | array_get_dec
  | bv_omega
  | rfl
  | skip)
local macro_rules | `(tactic| symm_saturate) => `(tactic| first
  | ((with_reducible apply q_set); (focus (clean_wf; done)))
  | ((with_reducible apply s_set); (focus (clean_wf; done)))
  | ((with_reducible apply q_aug (hx := rfl)); (focus (clean_wf; done)))
  | ((with_reducible apply s_aug (hx := rfl)); (focus (clean_wf; done)))
  | ((with_reducible apply q_augC (hx := rfl)); (focus (clean_wf; done)))
  | ((with_reducible apply s_augC (hx := rfl)); (focus (clean_wf; done))))
local macro_rules | `(tactic| subst_eqs) => `(tactic| repeat' (first
  | with_reducible apply w_c
  | ((with_reducible apply w_v'); (focus rfl))
  | with_reducible apply w_op
  | with_reducible apply w_cb
  | with_reducible apply w_cons
  | with_reducible apply w_nil
  | with_reducible apply r_add
  | with_reducible apply r_sub
  | ((with_reducible apply r_mul); (focus (bv_omega; done)))
  | ((with_reducible apply r_div); (focus (bv_omega; done)))
  | ((with_reducible apply r_mod); (focus (bv_omega; done)))
  | ((with_reducible apply r_pow); (focus (bv_omega; done)))
  | with_reducible apply r_lt
  | with_reducible apply r_le
  | with_reducible apply r_gt
  | with_reducible apply r_ge
  | with_reducible apply r_min
  | with_reducible apply r_max
  | with_reducible apply r_intB
  | ((with_reducible apply r_len); (focus (array_get_dec; done)))
  | with_reducible apply w_callW
  | with_reducible apply q_setW
  | with_reducible apply s_setW
  | with_reducible apply s_retW))

/-! ### papers shown -/
section
variable {K : PySem.W.Frag} {H : Hp} {p : Addr}
theorem prs_dqZ : ∀ {as : List Addr} {qs : List (Int × Int)}, as.length = qs.length → (∀ (i : Nat) (b : Addr) (q : Int × Int), as[i]? = some b → qs[i]? = some q → H b = some (.tup (pvals q))) → DqAll K H (as.map V.ref) (qs.map MU.pair)
  | [], [], _, _ => .nil
  | a :: as, q :: qs, hl, h => .cons (.tup (st_at (h 0 a q rfl rfl)) (.cons (.int _) (.cons (.int _) .nil))) (prs_dqZ (by simpa using hl) fun i b z h1 h2 => h (i + 1) b z (by simpa using h1) (by simpa using h2))
theorem swa_prsZ : ∀ {qs : List (Int × Int)}, (∀ q ∈ qs, q.1.natAbs < 10 ^ 38 ∧ q.2.natAbs < 10 ^ 38) → SwA (qs.map MU.pair) 1 (263 * qs.length)
  | [], _ => sw_nil
  | q :: qs, h => (sw_cons (sw_tup (sw_cons (sw_int (h q List.mem_cons_self).1) (sw_cons (sw_int (h q List.mem_cons_self).2) sw_nil))) (swa_prsZ fun z hz => h z (List.mem_cons_of_mem _ hz))).more (Nat.le_refl _) (by rw [List.length_cons]; omega)
theorem shn_prsZ {as : List Addr} {qs : List (Int × Int)} (hl : qs.length ≤ 1001) (hm : ∀ q ∈ qs, q.1.natAbs < 10 ^ 38 ∧ q.2.natAbs < 10 ^ 38) (pr : Prs H p as qs) : Shn K H (.ref p) (.list (qs.map MU.pair)) :=
  shn (.lst (sq_at pr.lst) (prs_dqZ pr.len pr.tup)) (sw_list (swa_prsZ hm)) (by decide) (by omega)
end
/-- a paper's items are told by its text -/
def Lnk (l : Option (List (Option (Int × Int)))) (d : PyData) : Prop := ∀ qs : List (Int × Int), l = some (qs.map some) ↔ d = .list (qs.map MU.pair)
theorem Pap.ex {K : PySem.W.Frag} {H H' : Hp} {v : V} {l : Option (List (Option (Int × Int)))} (h : Pap K H v l) (e : Ex H H') : Pap K H' v l := by
  cases l with
  | none => obtain ⟨t, ty, k⟩ := h; exact ⟨t, tyw_ex e ty, k⟩
  | some os => obtain ⟨a, xs, h1, h2, h3, h4⟩ := h; exact ⟨a, xs, h1, e _ _ h2, h3, fun j x o hx ho => (h4 j x o hx ho).ex e⟩
def sp_law_judged (K : PySem.W.Frag) : Sp := fun vs H Q _ => Nod H ∧ ∃ (a : Addr) (p : Nat) (r : List Nat) (low high : Nat) (v : V) (l : Option (List (Option (Int × Int)))) (d dk : PyData), vs = [.ref a, .int (low : Int), .int (high : Int), v] ∧ RowAt H a (p :: r) ∧ PapIn p r low high ∧ Pap K H v l ∧ Shn K H v d ∧ Lnk l d ∧
  (∀ (H' : Hp) (pk : Addr), Ex H H' → H' pk = some (.lst [.ref a, v]) → Shn K H' (.ref pk) dk) ∧ (ppr p r low high).length ≤ 1001 ∧ (∀ q ∈ ppr p r low high, q.1.natAbs < 10 ^ 38 ∧ q.2.natAbs < 10 ^ 38) ∧ Q (.bl true) H
/-- slots: row low high thing due kept again found -/
abbrev n_law_judged : List Str := ["row", "low", "high", "thing", "due", "kept", "again", "found"]
def t_law_judged (K : PySem.W.Frag) : TS := (sFg (tSeq (tAsg (tCall (sp_law_right_paper K) [] E0 (tCons (tVar 0) (tCons (tVar 1) (tCons (tVar 2) tNil)))) (gName 4))
  (tSeq (tAsg (tAndV (tOp oNotN (tVar 4) (tC .non)) (tOp rEq (tCB (cReprQ K) (tCons (tVar 3) tNil)) (tCB (cReprQ K) (tCons (tVar 4) tNil)))) (gName 4))
  (tSeq (tAsg (tCB (cReprQ K) (tCons (tLst (tCons (tVar 0) (tCons (tVar 3) tNil))) tNil)) (gName 5))
  (tSeq (tFor (iRng1 (tCons (tC (.int 2)) tNil)) (gName 6) (tSeq (tAsg (tCall (sp_is_paperZ K) [] E0 (tCons (tVar 0) (tCons (tVar 1) (tCons (tVar 2) (tCons (tVar 3) tNil))))) (gName 7))
  (tIfS (tOr (tNot (tB (tCB (rIsW K) (tCons (tVar 7) (tCons (tC (.ty "bool")) tNil))))) (tOr (tTest (tOp rNe (tVar 7) (tVar 4))) (bFg (tTest (tOp rNe (tCB (cReprQ K) (tCons (tLst (tCons (tVar 0) (tCons (tVar 3) tNil))) tNil)) (tVar 5)))))) (tRet (tC (.bl false))) tNext)))
  (tRet (tC (.bl true))))))))
open Classical in
theorem r_law_judged {K : PySem.W.Frag} {vs : List V} {H : Hp} {Q : VK} {E : XK} (h : sp_law_judged K vs H Q E) : t_law_judged K { nx := fun _ H' => Q .non H', rt := Q } (start n_law_judged vs) H := by
  obtain ⟨nd, a, p, r, low, high, v, l, d, dk, rfl, ra, i, pp, sh, lk, hk, hl, hm, q⟩ := h
  -- behind due
  have rest : ∀ (H1 : Hp) (y : V), Ex H H1 → Nod H1 → tSeq (tAsg (tCB (cReprQ K) (tCons (tLst (tCons (tVar 0) (tCons (tVar 3) tNil))) tNil)) (gName 5)) (tSeq (tFor (iRng1 (tCons (tC (.int 2)) tNil)) (gName 6) (tSeq (tAsg (tCall (sp_is_paperZ K) [] E0 (tCons (tVar 0) (tCons (tVar 1) (tCons (tVar 2) (tCons (tVar 3) tNil))))) (gName 7))
      (tIfS (tOr (tNot (tB (tCB (rIsW K) (tCons (tVar 7) (tCons (tC (.ty "bool")) tNil))))) (tOr (tTest (tOp rNe (tVar 7) (tVar 4))) (bFg (tTest (tOp rNe (tCB (cReprQ K) (tCons (tLst (tCons (tVar 0) (tCons (tVar 3) tNil))) tNil)) (tVar 5)))))) (tRet (tC (.bl false))) tNext)))
      (tRet (tC (.bl true)))) { nx := fun _ H' => ∃ H'', Fg H H' H'' ∧ Q .non H'', rt := fun v H' => ∃ H'', Fg H H' H'' ∧ Q v H'', bk := fun σ' H' => ∃ H'', Fg H H' H'' ∧ False, ct := fun σ' H' => ∃ H'', Fg H H' H'' ∧ False } [some (.ref a), some (.int (low : Int)), some (.int (high : Int)), some v, some (.bl (decide (PapOk p r low high ∧ l = some ((ppr p r low high).map some)))), none, none, none] H1 := fun H1 y e1 n1 => by
    refine q_setW (w_cb (w_one (w_lst (w_cons (w_v 0 (w_one (w_v 3 ⟨by show 2 ≤ sizeLine; decide, fun pk hpk => ?_⟩)))))))
    have e2 : Ex H (upd H1 pk (.lst [.ref a, v])) := ex_trans e1 (ex_new hpk)
    have n2 : Nod (upd H1 pk (.lst [.ref a, v])) := nod_upd n1 trivial
    refine w_reprQ (hk _ pk e2 upd_same) ?_
    generalize upd H1 pk _ = H2 at e2 n2 ⊢
    refine q_forR1 (k := 2) (ea_1 ev_c) (by omega) (fun j σ' H3 => ∃ y6 y7 : Option V, σ' = [some (.ref a), some (.int (low : Int)), some (.int (high : Int)), some v, some (.bl (decide (PapOk p r low high ∧ l = some ((ppr p r low high).map some)))), some (.str dk.shown), y6, y7] ∧ Own H2 [] H3) ⟨none, none, rfl, Own.nil⟩ (fun j σ' H3 hj hv => ?_) fun σ' H3 hv => ?_
    · obtain ⟨y6, y7, rfl, o⟩ := hv
      have e3 := ex_trans e2 o.ex
      refine q_setW (w_callW (w_cons (w_v 0 (w_cons (w_v 1 (w_cons (w_v 2 (w_one (w_v 3 ⟨o.nod, a, p, r, low, high, v, l, rfl, ra.ex e3, i, pp.ex e3, ?_⟩)))))))))
      refine s_when (b := false) (et_eq (et_or (a := false) (b := false) (et_eq (et_not (et_b (ev_isW (ev_v 7) ev_c (.ty "bool") (.inl (.base (.bl _))) (kit_ty (r := true) (by decide +kernel))))) rfl) fun _ => et_or (a := false) (b := false) (et_eq (et_t (ev_nes (ev_v 7) (ev_v 4) rfl)) (by simp)) fun _ => ?_) rfl) (fun z => nomatch z) fun _ => ⟨_, _, rfl, o⟩
      have n3 := o.nod
      refine et_fg fun Q q => w_tst (w_op (w_cb (w_one (w_lst (w_cons (w_v 0 (w_one (w_v 3 ⟨by show 2 ≤ sizeLine; decide, fun pk2 hpk2 => w_reprQ (hk _ pk2 (ex_trans e3 (ex_new hpk2)) upd_same) (w_v 5 ⟨rfl, ⟨_, rfl, ?_⟩⟩)⟩))))))))
      rw [show (!decide (V.str dk.shown = V.str dk.shown)) = false by simp]
      exact q _ (ex_new hpk2)
    · obtain ⟨y6, y7, rfl, o⟩ := hv
      exact s_ret ev_c ⟨H, fg_same (ex_trans e2 o.ex), q⟩
  refine fg_body (q_setW (w_callW (w_cons (w_v 0 (w_cons (w_v 1 (w_one (w_v 2 ⟨nd, a, p, r, low, high, rfl, ra, i, fun hno => ?_, fun hok pf as H1 hpf has e1 n1 pr => ?_⟩))))))))
  · have e : decide (PapOk p r low high ∧ l = some ((ppr p r low high).map some)) = false := decide_eq_false fun z => hno z.1
    rw [e] at rest
    exact q_set (v := .bl false) (ev_and (a := false) (b := false) (ev_eq (ev_notN (ev_v 4)) (by simp)) fun z => nomatch z) (rest H .non ex_refl nd)
  · have e : decide (V.str d.shown = V.str (PyData.list ((ppr p r low high).map MU.pair)).shown) = decide (PapOk p r low high ∧ l = some ((ppr p r low high).map some)) := decide_eq_decide.mpr ⟨fun z => ⟨hok, (lk _).mpr (MU.list_iff.mp (by injection z))⟩, fun z => by rw [(lk _).mp z.2]⟩
    refine q_set (v := .bl (decide (PapOk p r low high ∧ l = some ((ppr p r low high).map some)))) (ev_and (a := true) (ev_eq (ev_notN (x := .ref pf) (ev_v 4)) (by simp)) fun _ => ev_eq (ev_op (ev_cb (ea_1 (ev_v 3)) fun Q z => w_reprQ (sh.ex e1) z) (ev_cb (ea_1 (ev_v 4)) fun Q z => w_reprQ (shn_prsZ hl hm pr) z) fun Q z => ⟨rfl, z⟩) (congrArg V.bl e)) (rest H1 (.ref pf) e1 n1)
end Px
set_option Elab.async false
set_option linter.all false
set_option maxRecDepth 100000
set_option maxHeartbeats 4000000
namespace Px
open PySem L2
local macro_rules | `(tactic| bv_omega) => `(tactic| first | assumption | omega | exact cm (by omega) | exact cd (by omega) | exact cp (by omega) | exact trivial)
local macro_rules | `(tactic| array_get_dec) => `(tactic| first
  | assumption
  | exact sq_up
  | exact Own.sqi (by assumption) 0 (by rfl)
  | exact Own.sqi (by assumption) 1 (by rfl)
  | exact Own.sqi (by assumption) 2 (by rfl)
  | exact Own.sqi (by assumption) 3 (by rfl)
  | exact Own.sqi (by assumption) 4 (by rfl)
  | exact Own.sq (by assumption) (by assumption)
  | exact sq_new (by assumption) (by assumption))
local macro_rules | `(tactic| clean_wf) => `(tactic| first
  | with_reducible exact ev_c
  | (with_reducible apply ev_v') <;> rfl
  | (with_reducible apply ev_add) <;> clean_wf
  | (with_reducible apply ev_sub) <;> clean_wf
  | (with_reducible apply ev_mul) <;> clean_wf
  | (with_reducible apply ev_mod) <;> clean_wf
  | (with_reducible apply ev_div) <;> clean_wf
  | (with_reducible apply ev_pow) <;> clean_wf
  | (with_reducible apply ev_neg) <;> clean_wf
  | (with_reducible apply ev_lt) <;> clean_wf
  | (with_reducible apply ev_le) <;> clean_wf
  | (with_reducible apply ev_gt) <;> clean_wf
  | (with_reducible apply ev_ge) <;> clean_wf
  | (with_reducible apply ev_eqi) <;> clean_wf
  | (with_reducible apply ev_nei) <;> clean_wf
  | (with_reducible apply ev_len) <;> clean_wf
  | (with_reducible apply ev_ixL) <;> clean_wf
  | (with_reducible apply ev_min) <;> clean_wf
  | (with_reducible apply ev_max) <;> clean_wf
  | (with_reducible apply ev_abs) <;> clean_wf
  | (with_reducible apply ev_intB) <;> clean_wf
  | (with_reducible apply ea_1) <;> clean_wf
  | (with_reducible apply ea_2) <;> clean_wf
  | (with_reducible apply ea_3) <;> clean_wf
  | with_reducible exact ea_nil
  | (with_reducible apply ea_cons) <;> clean_wf
  | with_reducible exact el_nil
  | (with_reducible apply ep_lt) <;> clean_wf
  | (with_reducible apply ep_le) <;> clean_wf
  | (with_reducible apply ep_gt) <;> clean_wf
  | (with_reducible apply ep_ge) <;> clean_wf
  | (with_reducible apply ep_eqi) <;> clean_wf
  | (with_reducible apply ep_nei) <;> clean_wf
  | (with_reducible apply ep_not) <;> clean_wf
  | ((with_reducible apply ep_and) <;> first | (intro _; clean_wf; done) | clean_wf)
  | ((with_reducible apply ep_or) <;> first | (intro _; clean_wf; done) | clean_wf)
  | (with_reducible apply et_t) <;> clean_wf
  | (with_reducible apply eo_is) <;> clean_wf
  | with_reducible exact eo_no
  | array_get_dec
  | bv_omega
  | rfl
  | skip)
local macro_rules | `(tactic| symm_saturate) => `(tactic| first
  | ((with_reducible apply q_set); (focus (clean_wf; done)))
  | ((with_reducible apply s_set); (focus (clean_wf; done)))
  | ((with_reducible apply q_aug (hx := rfl)); (focus (clean_wf; done)))
  | ((with_reducible apply s_aug (hx := rfl)); (focus (clean_wf; done)))
  | ((with_reducible apply q_augC (hx := rfl)); (focus (clean_wf; done)))
  | ((with_reducible apply s_augC (hx := rfl)); (focus (clean_wf; done))))
local macro_rules | `(tactic| subst_eqs) => `(tactic| repeat' (first
  | with_reducible apply w_c
  | ((with_reducible apply w_v'); (focus rfl))
  | with_reducible apply w_op
  | with_reducible apply w_cb
  | with_reducible apply w_cons
  | with_reducible apply w_nil
  | with_reducible apply r_add
  | with_reducible apply r_sub
  | ((with_reducible apply r_mul); (focus (bv_omega; done)))
  | ((with_reducible apply r_div); (focus (bv_omega; done)))
  | ((with_reducible apply r_mod); (focus (bv_omega; done)))
  | ((with_reducible apply r_pow); (focus (bv_omega; done)))
  | with_reducible apply r_lt
  | with_reducible apply r_le
  | with_reducible apply r_gt
  | with_reducible apply r_ge
  | with_reducible apply r_min
  | with_reducible apply r_max
  | with_reducible apply r_intB
  | ((with_reducible apply r_len); (focus (array_get_dec; done)))
  | with_reducible apply w_callW
  | with_reducible apply q_setW
  | with_reducible apply s_setW
  | with_reducible apply s_retW))

/-! ### a thing three thousand deep -/
theorem fg_all {H H' : Hp} [n0 : Nod H] (n : Nod H') (e : Ex H H') (f : ∀ b u, H b = none → H' b = some u → fresh u) : Fg H H' H' where
  sub := fun _ _ h => h
  old := fun _ _ _ => rfl
  own := fun b x h => e b _ h
  ins := fun b C dx fs h => by
    cases hb : H b with
    | none => exact (f b _ hb h).elim
    | some u =>
      have := e b u hb
      rw [h] at this; cases this
      exact ⟨fs, rfl⟩
  frz := fun b o u h => by
    cases hb : H b with
    | none => exact (f b _ hb h).elim
    | some w =>
      have := e b w hb
      rw [h] at this; cases this
      rfl
  nod := n.nod
def sp_law_deep (K : PySem.W.Frag) : Sp := fun vs H Q _ => Nod H ∧ ∃ (k : Nat), vs = [.int (k : Int)] ∧ 0 < k ∧ k < 100000 ∧ ∀ (t b : Addr) (ys : List V) (H' : Hp), Nod H' → Ex H H' → H' t = some (.lst [.ref b]) → H' b = some (.lst ys) → Q (.ref t) H'
/-- slots: many found k -/
abbrev n_law_deep : List Str := ["many", "found", "k"]
def t_law_deep (K : PySem.W.Frag) : TS := (sFg (tSeq (tAsg (tLst tNil) (gName 1))
  (tSeq (tFor (iRng1 (tCons (tVar 0) tNil)) (gName 2) (tAsg (tLst (tCons (tVar 1) tNil)) (gName 1)))
  (tRet (tVar 1)))))
theorem r_law_deep {K : PySem.W.Frag} {vs : List V} {H : Hp} {Q : VK} {E : XK} (h : sp_law_deep K vs H Q E) : t_law_deep K { nx := fun _ H' => Q .non H', rt := Q } (start n_law_deep vs) H := by
  obtain ⟨nd, k, rfl, h0, hk, q⟩ := h
  refine fg_body (q_setW (el_nil _ fun t ht => ?_))
  refine q_forR1 (k := (k : Int)) (ea_1 (ev_v 0)) (by omega) (fun i σ' H' => ∃ (t : Addr) (ys : List V) (y2 : Option V), σ' = [some (.int (k : Int)), some (.ref t), y2] ∧ Nod H' ∧ Ex H H' ∧ (∀ b u, H b = none → H' b = some u → fresh u) ∧ H' t = some (.lst ys) ∧ (0 < i → ∃ b zs, ys = [.ref b] ∧ H' b = some (.lst zs))) ⟨t, [], none, rfl, nod_upd nd trivial, ex_new ht, fun b u hb hu => ?_, upd_same, fun z => absurd z (by omega)⟩ (fun i σ' H' _ hv => ?_) fun σ' H' hv => ?_
  · by_cases z : b = t
    · rw [z, upd_same] at hu; cases hu; trivial
    · rw [upd_ne z, hb] at hu; cases hu
  · obtain ⟨t, ys, y2, rfl, n, e, f, h1, h2⟩ := hv
    refine s_setW (w_evL (el_lst (ea_1 (ev_v 1)) (by simp)) fun t2 ht2 => ⟨t2, [.ref t], _, rfl, nod_upd n trivial, ex_upd (ex_none e ht2) e, fun b u hb hu => ?_, upd_same, fun _ => ⟨t, ys, rfl, by rw [upd_ne (ne_of_none h1 ht2)]; exact h1⟩⟩)
    by_cases z : b = t2
    · rw [z, upd_same] at hu; cases hu; trivial
    · rw [upd_ne z] at hu; exact f b u hb hu
  · obtain ⟨t, ys, y2, rfl, n, e, f, h1, h2⟩ := hv
    obtain ⟨b, zs, rfl, hb⟩ := h2 (by simpa using h0)
    exact s_ret (ev_v 1) ⟨H', fg_all n e f, q t b zs H' n e h1 hb⟩
end Px
set_option Elab.async false
set_option linter.all false
set_option maxRecDepth 100000
set_option maxHeartbeats 4000000
namespace Px
open PySem L2 MA
local macro_rules | `(tactic| bv_omega) => `(tactic| first | assumption | omega | exact cm (by omega) | exact cd (by omega) | exact cp (by omega) | exact trivial)
local macro_rules | `(tactic| array_get_dec) => `(tactic| first
  | assumption
  | exact sq_up
  | exact Own.sqi (by assumption) 0 (by rfl)
  | exact Own.sqi (by assumption) 1 (by rfl)
  | exact Own.sqi (by assumption) 2 (by rfl)
  | exact Own.sqi (by assumption) 3 (by rfl)
  | exact Own.sqi (by assumption) 4 (by rfl)
  | exact Own.sq (by assumption) (by assumption)
  | exact sq_new (by assumption) (by assumption))
local macro_rules | `(tactic| clean_wf) => `(tactic| first
  | with_reducible exact ev_c
  | (with_reducible apply ev_v') <;> rfl
  | (with_reducible apply ev_add) <;> clean_wf
  | (with_reducible apply ev_sub) <;> clean_wf
  | (with_reducible apply ev_mul) <;> clean_wf
  | (with_reducible apply ev_mod) <;> clean_wf
  | (with_reducible apply ev_div) <;> clean_wf
  | (with_reducible apply ev_pow) <;> clean_wf
  | (with_reducible apply ev_neg) <;> clean_wf
  | (with_reducible apply ev_lt) <;> clean_wf
  | (with_reducible apply ev_le) <;> clean_wf
  | (with_reducible apply ev_gt) <;> clean_wf
  | (with_reducible apply ev_ge) <;> clean_wf
  | (with_reducible apply ev_eqi) <;> clean_wf
  | (with_reducible apply ev_nei) <;> clean_wf
  | (with_reducible apply ev_len) <;> clean_wf
  | (with_reducible apply ev_ixL) <;> clean_wf
  | (with_reducible apply ev_min) <;> clean_wf
  | (with_reducible apply ev_max) <;> clean_wf
  | (with_reducible apply ev_abs) <;> clean_wf
  | (with_reducible apply ev_intB) <;> clean_wf
  | (with_reducible apply ea_1) <;> clean_wf
  | (with_reducible apply ea_2) <;> clean_wf
  | (with_reducible apply ea_3) <;> clean_wf
  | with_reducible exact ea_nil
  | (with_reducible apply ea_cons) <;> clean_wf
  | with_reducible exact el_nil
  | (with_reducible apply ep_lt) <;> clean_wf
  | (with_reducible apply ep_le) <;> clean_wf
  | (with_reducible apply ep_gt) <;> clean_wf
  | (with_reducible apply ep_ge) <;> clean_wf
  | (with_reducible apply ep_eqi) <;> clean_wf
  | (with_reducible apply ep_nei) <;> clean_wf
  | (with_reducible apply ep_not) <;> clean_wf
  | ((with_reducible apply ep_and) <;> first | (intro _; clean_wf; done) | clean_wf)
  | ((with_reducible apply ep_or) <;> first | (intro _; clean_wf; done) | clean_wf)
  | (with_reducible apply et_t) <;> clean_wf
  | (with_reducible apply eo_is) <;> clean_wf
  | with_reducible exact eo_no
  | array_get_dec
  | bv_omega
  | rfl
  | skip)
local macro_rules | `(tactic| symm_saturate) => `(tactic| first
  | ((with_reducible apply q_set); (focus (clean_wf; done)))
  | ((with_reducible apply s_set); (focus (clean_wf; done)))
  | ((with_reducible apply q_aug (hx := rfl)); (focus (clean_wf; done)))
  | ((with_reducible apply s_aug (hx := rfl)); (focus (clean_wf; done)))
  | ((with_reducible apply q_augC (hx := rfl)); (focus (clean_wf; done)))
  | ((with_reducible apply s_augC (hx := rfl)); (focus (clean_wf; done))))
local macro_rules | `(tactic| subst_eqs) => `(tactic| repeat' (first
  | with_reducible apply w_c
  | ((with_reducible apply w_v'); (focus rfl))
  | with_reducible apply w_op
  | with_reducible apply w_cb
  | with_reducible apply w_cons
  | with_reducible apply w_nil
  | with_reducible apply r_add
  | with_reducible apply r_sub
  | ((with_reducible apply r_mul); (focus (bv_omega; done)))
  | ((with_reducible apply r_div); (focus (bv_omega; done)))
  | ((with_reducible apply r_mod); (focus (bv_omega; done)))
  | ((with_reducible apply r_pow); (focus (bv_omega; done)))
  | with_reducible apply r_lt
  | with_reducible apply r_le
  | with_reducible apply r_gt
  | with_reducible apply r_ge
  | with_reducible apply r_min
  | with_reducible apply r_max
  | with_reducible apply r_intB
  | ((with_reducible apply r_len); (focus (array_get_dec; done)))
  | with_reducible apply w_callW
  | with_reducible apply q_setW
  | with_reducible apply s_setW
  | with_reducible apply s_retW))

/-! ### lists that are one's own, all that is new is plain -/
structure OF (H0 B : Hp) (L : List (Addr × List V)) (H : Hp) : Prop where
  o : Own B L H
  f : ∀ b u, H0 b = none → H b = some u → fresh u
section
variable {K : PySem.W.Frag} {H0 B H : Hp} {L : List (Addr × List V)} {p : Addr} {xs ys : List V} {u : HO}
theorem of_upd (h : ∀ b u, H0 b = none → H b = some u → fresh u) (fu : fresh u) : ∀ b w, H0 b = none → upd H p u b = some w → fresh w := fun b w h0 h1 => by
  by_cases z : b = p
  · rw [z, upd_same] at h1; cases h1; exact fu
  · rw [upd_ne z] at h1; exact h b w h0 h1
theorem OF.new (c : OF H0 B L H) (hp : H p = none) : OF H0 B ((p, xs) :: L) (upd H p (.lst xs)) := ⟨c.o.new hp, of_upd c.f trivial⟩
theorem OF.tmp (c : OF H0 B L H) (hp : H p = none) : OF H0 B L (upd H p (.lst xs)) := ⟨c.o.tmp hp, of_upd c.f trivial⟩
theorem OF.tupT (c : OF H0 B L H) (hp : H p = none) : OF H0 B L (upd H p (.tup xs)) := ⟨c.o.tup hp, of_upd c.f trivial⟩
theorem OF.base (c : OF H0 B L H) (hp : H p = none) (fu : fresh u) : OF H0 (upd B p u) L (upd H p u) := ⟨c.o.newB hp (nod_upd c.o.nod (fresh_flat fu)), of_upd c.f fu⟩
theorem OF.mut (c : OF H0 B L H) (i : Nat) (h : L[i]? = some (p, xs)) : OF H0 B (L.set i (p, ys)) (upd H p (.lst ys)) := ⟨c.o.mut i h, of_upd c.f trivial⟩
theorem OF.sub {L' : List (Addr × List V)} (c : OF H0 B L H) (s : L'.Sublist L) : OF H0 B L' H := ⟨c.o.sub s, c.f⟩
theorem OF.draw {d s m : Int} {Q : VK} {E : XK} (c : OF H0 B L H) (i : Nat) (h : L[i]? = some (p, hd d s)) (ok : HdOk d s) (m0 : 0 < m ∧ m < 2 ^ 200)
    (k : ∀ (r d' s' : Int) (H2 : Hp), 0 ≤ r ∧ r < m → HdOk d' s' → OF H0 B (L.set i (p, hd d' s')) H2 → Q (.int r) H2) : sp_law_draw K ([.ref p, .int m] ++ []) H Q E :=
  ⟨c.o.nod, p, d, s, m, rfl, c.o.atI i h, ok, m0.1, m0.2, fun r d' s' h0 h1 ok' => k r d' s' _ ⟨h0, h1⟩ ok' (c.mut i h)⟩
/-- what becomes of one's own is the base -/
theorem OF.give (c : OF H0 B ((p, xs) :: L) H) : ∃ B', Ex B B' ∧ OF H0 B' L H ∧ B' p = some (.lst xs) := by
  have hB : B p = none := c.o.offI 0 rfl
  have hH : H p = some (.lst xs) := c.o.atI 0 rfl
  refine ⟨upd B p (.lst xs), ex_new hB, ⟨⟨c.o.nod, fun b u hb => ?_, fun q hq => ?_, (List.nodup_cons.mp c.o.dis).2, fun q hq => c.o.has q (List.mem_cons_of_mem _ hq)⟩, c.f⟩, upd_same⟩
  · by_cases z : b = p
    · rw [z, upd_same] at hb; rw [z, hH]; exact hb
    · rw [upd_ne z] at hb; exact c.o.ex b u hb
  · have ne : q.1 ≠ p := fun z => (List.nodup_cons.mp c.o.dis).1 (List.mem_map.mpr ⟨q, hq, z⟩)
    rw [upd_ne ne]
    exact c.o.off q (List.mem_cons_of_mem _ hq)
theorem fg_full {H H' : Hp} {a : Addr} {xs ys : List V} [n0 : Nod H] (n : Nod H') (ha : H a = some (.lst xs)) (ha' : H' a = some (.lst ys)) (e : Ex (del H a) H') (f : ∀ b u, H b = none → H' b = some u → fresh u) : Fg H H' H' where
  sub := fun _ _ h => h
  old := fun _ _ _ => rfl
  own := fun b x h => e b _ (by rw [del_ne (fun z => by rw [z, ha] at h; cases h)]; exact h)
  ins := fun b C dx fs h => by
    cases hb : H b with
    | none => exact (f b _ hb h).elim
    | some u =>
      by_cases z : b = a
      · rw [z, ha'] at h; cases h
      · have := e b u (by rw [del_ne z]; exact hb)
        rw [h] at this; cases this
        exact ⟨fs, rfl⟩
  frz := fun b o u h => by
    cases hb : H b with
    | none => exact (f b _ hb h).elim
    | some w =>
      by_cases z : b = a
      · rw [z, ha'] at h; cases h
      · have := e b w (by rw [del_ne z]; exact hb)
        rw [h] at this; cases this
        rfl
  nod := n.nod
end
section
variable {K : PySem.W.Frag} {B : Hp} {a : Addr}
theorem nop_pr {n : Nat} (h : NoP K B (.int (n : Int))) : n ∉ PR := fun hn => by
  rcases h with ⟨t, ty, k⟩ | ⟨c, e⟩ | ⟨i, e, hi⟩
  · rcases ty with ty | ⟨b, e, _⟩
    · cases ty with
      | base h =>
        cases h with
        | int i => revert k; decide +kernel
    · cases e
  · cases e
  · cases e
    exact hi n hn rfl
theorem elt_int (i : Int) : (∃ n ∈ PR, V.int i = .int (n : Int)) ∨ NoP K B (.int i) := by
  by_cases h : ∃ n ∈ PR, i = (n : Int)
  · obtain ⟨n, hn, rfl⟩ := h
    exact .inl ⟨n, hn, rfl⟩
  · exact .inr (pn_int fun n hn e => h ⟨n, hn, e⟩)
theorem elt_zv {l : List Nat} : ∀ x ∈ zv l, (∃ n ∈ PR, x = V.int (n : Int)) ∨ NoP K B x := fun x hx => by
  obtain ⟨i, _, rfl⟩ := mem_int hx
  exact elt_int i
theorem flat_zv {l : List Nat} : ∀ x ∈ zv l, flatB x = true ∨ ∃ c, x = V.ref c := fun x hx => by
  obtain ⟨i, _, rfl⟩ := mem_int hx
  exact .inl rfl
theorem zv_inj {l m : List Nat} (h : zv l = zv m) : l = m := by
  have := congrArg (List.map fun v => match v with | V.int i => i.toNat | _ => 0) h
  simp only [zl, List.map_map] at this
  have h2 : ∀ l : List Nat, l.map ((fun v => match v with | V.int i => i.toNat | _ => 0) ∘ V.int ∘ fun (x : Nat) => (x : Int)) = l := fun l => by
    rw [show ((fun v => match v with | V.int i => i.toNat | _ => 0) ∘ V.int ∘ fun (x : Nat) => (x : Int)) = id from funext fun x => by simp]; simp
  rw [h2, h2] at this
  exact this
theorem nr_dup {A C : List Nat} {x : Nat} : ¬ (Rw (A ++ x :: x :: C) ∧ A ++ x :: x :: C ≠ []) := fun ⟨w, _⟩ => by
  have := (List.pairwise_append.mp w.up).2.1
  have := (List.pairwise_cons.mp this).1 x (by simp)
  omega
theorem nr_in {l : List Nat} {n : Nat} (h : n ∈ l) (hn : n ∉ PR) : ¬ (Rw l ∧ l ≠ []) := fun ⟨w, _⟩ => hn (w.mem n h)
theorem nr_swap {l : List Nat} {i j x y : Nat} (hi : l[i]? = some x) (hj : l[j]? = some y) (hij : i < j) (hxy : y ≤ x) : ¬ (Rw l ∧ l ≠ []) := fun ⟨w, _⟩ => by
  have := get_lt w.up hi hj hij
  omega
end
section
variable {K : PySem.W.Frag} {H0 B H : Hp} {L : List (Addr × List V)} {σ : L2.St} {Q : VK}
theorem OF.b {p : Addr} {u : HO} (c : OF H0 B L H) (h : B p = some u) : H p = some u := c.o.ex _ _ h
theorem OF.noB {p : Addr} (c : OF H0 B L H) (h : H p = none) : B p = none := ex_none c.o.ex h
theorem w_splice {t1 t3 t4 te : TE} {r : Addr} {row : List Nat} {k k' : Nat} {x : V} (c : OF H0 B L H) (hr : B r = some (.lst (zv row))) (hl : row.length ≤ 6) (e1 : ∀ H', Ev t1 σ H' (.ref r)) (e3 : ∀ H', Ev t3 σ H' (.int (k : Int))) (e4 : ∀ H', Ev t4 σ H' (.int (k' : Int)))
    (ex : ∀ H', H' r = some (.lst (zv row)) → Ev te σ H' x) (q : ∀ p H2, B p = none → OF H0 (upd B p (.lst (zv (row.take k) ++ [x] ++ zv (row.drop k')))) L H2 → Q (.ref p) H2) :
    tOp rCat (tOp rCat (tSl (rSlL K) t1 tNoPart (tPart t3)) (tLst (tCons te tNil))) (tSl (rSlL K) t1 (tPart t4) tNoPart) σ H Q := by
  refine w_op (w_op (w_evL (el_sl (e1 _) eo_no (eo_is (e3 _)) (sq_at (c.b hr))) fun p1 hp1 => ?_))
  rw [cut_toN]
  replace c := c.new (xs := zv (row.take k)) hp1
  refine w_evL (el_lst (ea_1 (ex _ (c.b hr))) (by simp)) fun p2 hp2 => ?_
  replace c := c.new (xs := [x]) hp2
  refine ⟨p1, p2, _, _, rfl, rfl, c.o.atI 1 rfl, c.o.atI 0 rfl, by rw [zv_len, sizeLine_eq]; simp; omega, fun p3 hp3 => ?_⟩
  replace c := c.new (xs := zv (row.take k) ++ [x]) hp3
  dsimp only
  refine w_evL (el_sl (e1 _) (eo_is (e4 _)) eo_no (sq_at (c.b hr))) fun p4 hp4 => ?_
  rw [cut_fromN]
  replace c := c.new (xs := zv (row.drop k')) hp4
  refine ⟨p3, p4, _, _, rfl, rfl, c.o.atI 1 rfl, c.o.atI 0 rfl, by rw [List.length_append, zv_len, zv_len, sizeLine_eq]; simp; omega, fun p5 hp5 => ?_⟩
  have hb := c.noB hp5
  exact q p5 _ hb ((c.base (u := .lst (zv (row.take k) ++ [x] ++ zv (row.drop k'))) hp5 trivial).sub (((((List.Sublist.refl _).cons _).cons _).cons _).cons _))
end
theorem own_del {B H : Hp} {L : List (Addr × List V)} {h : Addr} {xs : List V} (o : Own B L H) (i : Nat) (hi : L[i]? = some (h, xs)) : Ex B (del H h) := fun b u hb => by rw [del_ne (o.neB i hi hb)]; exact o.ex b u hb
theorem zv_rev (l : List Nat) : (zv l).reverse = zv l.reverse := by simp
theorem zv_setP (l : List Nat) (i x : Nat) : (zv l).set i (.int (x : Int)) = zv (l.set i x) := by simp [zl, List.map_set]
theorem nr_rev {row : List Nat} (h : row ≠ []) : ¬ (Rw (row.reverse ++ row) ∧ row.reverse ++ row ≠ []) := by
  obtain ⟨a, t, rfl⟩ := List.exists_cons_of_ne_nil h
  rw [List.reverse_cons, List.append_assoc]
  exact nr_dup
theorem Own.low {B B2 H : Hp} {L : List (Addr × List V)} (o : Own B2 L H) (e : Ex B B2) : Own B L H := ⟨o.nod, ex_trans e o.ex, fun p hp => ex_none e (o.off p hp), o.dis, o.has⟩
theorem Own.give {B H : Hp} {L : List (Addr × List V)} {p : Addr} {xs : List V} (o : Own B ((p, xs) :: L) H) : ∃ B', Ex B B' ∧ Own B' L H ∧ B' p = some (.lst xs) := by
  obtain ⟨B', e, c, h⟩ := (⟨o, fun b u h0 h1 => by rw [h0] at h1; cases h1⟩ : OF H B ((p, xs) :: L) H).give
  exact ⟨B', e, c.o, h⟩
end Px
set_option Elab.async false
set_option linter.all false
set_option maxRecDepth 100000
set_option maxHeartbeats 4000000
namespace Px
open PySem L2 MA
local macro_rules | `(tactic| bv_omega) => `(tactic| first | assumption | omega | exact cm (by omega) | exact cd (by omega) | exact cp (by omega) | exact trivial)
local macro_rules | `(tactic| array_get_dec) => `(tactic| first
  | assumption
  | exact sq_up
  | exact Own.sqi (by assumption) 0 (by rfl)
  | exact Own.sqi (by assumption) 1 (by rfl)
  | exact Own.sqi (by assumption) 2 (by rfl)
  | exact Own.sqi (by assumption) 3 (by rfl)
  | exact Own.sqi (by assumption) 4 (by rfl)
  | exact Own.sq (by assumption) (by assumption)
  | exact sq_new (by assumption) (by assumption))
local macro_rules | `(tactic| clean_wf) => `(tactic| first
  | with_reducible exact ev_c
  | (with_reducible apply ev_v') <;> rfl
  | (with_reducible apply ev_add) <;> clean_wf
  | (with_reducible apply ev_sub) <;> clean_wf
  | (with_reducible apply ev_mul) <;> clean_wf
  | (with_reducible apply ev_mod) <;> clean_wf
  | (with_reducible apply ev_div) <;> clean_wf
  | (with_reducible apply ev_pow) <;> clean_wf
  | (with_reducible apply ev_neg) <;> clean_wf
  | (with_reducible apply ev_lt) <;> clean_wf
  | (with_reducible apply ev_le) <;> clean_wf
  | (with_reducible apply ev_gt) <;> clean_wf
  | (with_reducible apply ev_ge) <;> clean_wf
  | (with_reducible apply ev_eqi) <;> clean_wf
  | (with_reducible apply ev_nei) <;> clean_wf
  | (with_reducible apply ev_len) <;> clean_wf
  | (with_reducible apply ev_ixL) <;> clean_wf
  | (with_reducible apply ev_min) <;> clean_wf
  | (with_reducible apply ev_max) <;> clean_wf
  | (with_reducible apply ev_abs) <;> clean_wf
  | (with_reducible apply ev_intB) <;> clean_wf
  | (with_reducible apply ea_1) <;> clean_wf
  | (with_reducible apply ea_2) <;> clean_wf
  | (with_reducible apply ea_3) <;> clean_wf
  | with_reducible exact ea_nil
  | (with_reducible apply ea_cons) <;> clean_wf
  | with_reducible exact el_nil
  | (with_reducible apply ep_lt) <;> clean_wf
  | (with_reducible apply ep_le) <;> clean_wf
  | (with_reducible apply ep_gt) <;> clean_wf
  | (with_reducible apply ep_ge) <;> clean_wf
  | (with_reducible apply ep_eqi) <;> clean_wf
  | (with_reducible apply ep_nei) <;> clean_wf
  | (with_reducible apply ep_not) <;> clean_wf
  | ((with_reducible apply ep_and) <;> first | (intro _; clean_wf; done) | clean_wf)
  | ((with_reducible apply ep_or) <;> first | (intro _; clean_wf; done) | clean_wf)
  | (with_reducible apply et_t) <;> clean_wf
  | (with_reducible apply eo_is) <;> clean_wf
  | with_reducible exact eo_no
  | array_get_dec
  | bv_omega
  | rfl
  | skip)
local macro_rules | `(tactic| symm_saturate) => `(tactic| first
  | ((with_reducible apply q_set); (focus (clean_wf; done)))
  | ((with_reducible apply s_set); (focus (clean_wf; done)))
  | ((with_reducible apply q_aug (hx := rfl)); (focus (clean_wf; done)))
  | ((with_reducible apply s_aug (hx := rfl)); (focus (clean_wf; done)))
  | ((with_reducible apply q_augC (hx := rfl)); (focus (clean_wf; done)))
  | ((with_reducible apply s_augC (hx := rfl)); (focus (clean_wf; done))))
local macro_rules | `(tactic| subst_eqs) => `(tactic| repeat' (first
  | with_reducible apply w_c
  | ((with_reducible apply w_v'); (focus rfl))
  | with_reducible apply w_op
  | with_reducible apply w_cb
  | with_reducible apply w_cons
  | with_reducible apply w_nil
  | with_reducible apply r_add
  | with_reducible apply r_sub
  | ((with_reducible apply r_mul); (focus (bv_omega; done)))
  | ((with_reducible apply r_div); (focus (bv_omega; done)))
  | ((with_reducible apply r_mod); (focus (bv_omega; done)))
  | ((with_reducible apply r_pow); (focus (bv_omega; done)))
  | with_reducible apply r_lt
  | with_reducible apply r_le
  | with_reducible apply r_gt
  | with_reducible apply r_ge
  | with_reducible apply r_min
  | with_reducible apply r_max
  | with_reducible apply r_intB
  | ((with_reducible apply r_len); (focus (array_get_dec; done)))
  | with_reducible apply w_callW
  | with_reducible apply q_setW
  | with_reducible apply s_setW
  | with_reducible apply s_retW))

/-! ### whole numbers -/
def sp_law_whole (K : PySem.W.Frag) : Sp := fun vs H Q _ => Nod H ∧ ∃ (v : V) (r : Bool), vs = [v] ∧ ((∃ i : Int, v = .int i ∧ r = true) ∨ ((NoIn K H v ∨ ∃ c, v = .bl c) ∧ r = false)) ∧ Q (.bl r) H
/-- slots: thing -/
abbrev n_law_whole : List Str := ["thing"]
def t_law_whole (K : PySem.W.Frag) : TS := (sFg (tRet (tAndV (tCB (rIsW K) (tCons (tVar 0) (tCons (tC (.ty "int")) tNil))) (tNotV (tCB (rIsW K) (tCons (tVar 0) (tCons (tC (.ty "bool")) tNil)))))))
theorem r_law_whole {K : PySem.W.Frag} {vs : List V} {H : Hp} {Q : VK} {E : XK} (h : sp_law_whole K vs H Q E) : t_law_whole K { nx := fun _ H' => Q .non H', rt := Q } (start n_law_whole vs) H := by
  obtain ⟨nd, v, r, rfl, h, q⟩ := h
  rcases h with ⟨i, rfl, rfl⟩ | ⟨⟨t, ty, k⟩ | ⟨c, rfl⟩, rfl⟩
  · exact fg_body (s_ret (ev_and (ev_isW (ev_v 0) ev_c (.ty "int") (.inl (.base (.int i))) (kit_ty (r := true) (by decide +kernel))) fun _ => ev_not (ev_isW (ev_v 0) ev_c (.ty "bool") (.inl (.base (.int i))) (kit_ty (r := false) (by decide +kernel)))) ⟨H, fg_same ex_refl, q⟩)
  · exact fg_body (s_ret (v := .bl false) (ev_and (a := false) (b := false) (ev_isW (ev_v 0) ev_c (.ty "int") ty (kit_ty (r := false) k)) fun z => nomatch z) ⟨H, fg_same ex_refl, q⟩)
  · exact fg_body (s_ret (v := .bl false) (ev_and (a := true) (b := false) (ev_isW (ev_v 0) ev_c (.ty "int") (.inl (.base (.bl c))) (kit_ty (r := true) (by decide +kernel))) fun _ => ev_eq (ev_not (ev_isW (ev_v 0) ev_c (.ty "bool") (.inl (.base (.bl c))) (kit_ty (r := true) (by decide +kernel)))) rfl) ⟨H, fg_same ex_refl, q⟩)

/-! ### items of a list that may be a paper: what they are and how they are shown -/
def Lk1 (o : Option (Int × Int)) (d : PyData) : Prop := ∀ q, o = some q ↔ d = MU.pair q
structure IB (K : PySem.W.Frag) (B : Hp) (m : Nat) (v : V) (o : Option (Int × Int)) (d : PyData) : Prop where
  it : Itm K B v o
  dq : Dq K B v d
  sw : Sw d 3 560
  lk : Lk1 o d
  le : ∀ q, o = some q → q.1.natAbs ≤ m ∧ q.2.natAbs ≤ m
theorem IB.ex {K : PySem.W.Frag} {B B' : Hp} {m : Nat} {v : V} {o : Option (Int × Int)} {d : PyData} (h : IB K B m v o d) (e : Ex B B') : IB K B' m v o d := ⟨h.it.ex e, h.dq.ex e, h.sw, h.lk, h.le⟩
theorem IB.more {K : PySem.W.Frag} {B : Hp} {m m' : Nat} {v : V} {o : Option (Int × Int)} {d : PyData} (h : IB K B m v o d) (hm : m ≤ m') : IB K B m' v o d := ⟨h.it, h.dq, h.sw, h.lk, fun q hq => ⟨Nat.le_trans (h.le q hq).1 hm, Nat.le_trans (h.le q hq).2 hm⟩⟩
theorem lk_off {d : PyData} (h : ∀ q, d ≠ MU.pair q) : Lk1 none d := fun q => ⟨(fun z => nomatch z), fun z => absurd z (h q)⟩
theorem pair_inj {q q' : Int × Int} (h : MU.pair q = MU.pair q') : q = q' := by
  unfold MU.pair at h
  injection h with h
  injection h with h1 h2
  injection h2 with h2 _
  injection h1 with h1
  injection h2 with h2
  exact Prod.ext h1 h2
theorem lk_on (q : Int × Int) : Lk1 (some q) (MU.pair q) := fun z => ⟨fun w => by cases w; rfl, fun w => by rw [pair_inj w]⟩
theorem ib_pair {K : PySem.W.Frag} {B : Hp} {m : Nat} {b : Addr} {q : Int × Int} (h : B b = some (.tup (pvals q))) (hm : q.1.natAbs ≤ m ∧ q.2.natAbs ≤ m) (hb : m < 10 ^ 38) : IB K B m (.ref b) (some q) (MU.pair q) :=
  ⟨⟨b, rfl, h⟩, .tup (st_at h) (.cons (.int _) (.cons (.int _) .nil)), (sw_tup (sw_cons (sw_int (by omega)) (sw_cons (sw_int (by omega)) sw_nil))).more (by omega) (by omega), lk_on q, fun z hz => by cases hz; exact hm⟩
/-- the items of a list -/
def IBs (K : PySem.W.Frag) (B : Hp) (m : Nat) (xs : List V) : Prop := ∀ x ∈ xs, ∃ o d, IB K B m x o d
/-- a list of items as a thing -/
theorem ibs_pap {K : PySem.W.Frag} {B : Hp} {m : Nat} : ∀ {xs : List V}, IBs K B m xs → ∃ (os : List (Option (Int × Int))) (ds : List PyData), os.length = xs.length ∧ DqAll K B xs ds ∧ SwA ds 3 (561 * xs.length) ∧ (∀ (j : Nat) (x : V) (o : Option (Int × Int)), xs[j]? = some x → os[j]? = some o → Itm K B x o) ∧ ∀ qs : List (Int × Int), os = qs.map some ↔ ds = qs.map MU.pair
  | [], _ => ⟨[], [], rfl, .nil, sw_nil, fun j x o h => by simp at h, fun qs => by cases qs <;> simp⟩
  | x :: xs, h => by
    obtain ⟨os, ds, h1, h2, h3, h4, h5⟩ := ibs_pap fun y hy => h y (List.mem_cons_of_mem _ hy)
    obtain ⟨o, d, ib⟩ := h x List.mem_cons_self
    refine ⟨o :: os, d :: ds, by simp [h1], .cons ib.dq h2, (sw_cons ib.sw h3).more (Nat.le_refl _) (by rw [List.length_cons]; omega), fun j y o' hy ho => ?_, fun qs => ?_⟩
    · cases j with
      | zero => cases hy; cases ho; exact ib.it
      | succ j => exact h4 j y o' (by simpa using hy) (by simpa using ho)
    · cases qs with
      | nil => simp
      | cons q qs =>
        rw [List.map_cons, List.map_cons, List.cons.injEq, List.cons.injEq, ib.lk q, h5 qs]
/-- so it can be judged -/
theorem ibs_thing {K : PySem.W.Frag} {B : Hp} {m : Nat} {a : Addr} {xs : List V} (h : IBs K B m xs) (ha : B a = some (.lst xs)) (hl : xs.length ≤ 600) : ∃ l d, Pap K B (.ref a) l ∧ Dq K B (.ref a) d ∧ Sw d 4 (561 * 600) ∧ Lnk l d := by
  obtain ⟨os, ds, h1, h2, h3, h4, h5⟩ := ibs_pap h
  refine ⟨some os, .list ds, ⟨a, xs, rfl, ha, h1.symm, h4⟩, .lst (sq_at ha) h2, (sw_list h3).more (Nat.le_refl _) (Nat.mul_le_mul_left 561 hl), fun qs => ⟨fun z => ?_, fun z => ?_⟩⟩
  · rw [(h5 qs).mp (Option.some.inj z)]
  · injection z with z
    rw [(h5 qs).mpr z]
end Px
set_option Elab.async false
set_option linter.all false
set_option maxRecDepth 100000
set_option maxHeartbeats 4000000
namespace Px
open PySem L2 MA
local macro_rules | `(tactic| bv_omega) => `(tactic| first | assumption | omega | exact cm (by omega) | exact cd (by omega) | exact cp (by omega) | exact trivial)
local macro_rules | `(tactic| array_get_dec) => `(tactic| first
  | assumption
  | exact sq_up
  | exact Own.sqi (by assumption) 0 (by rfl)
  | exact Own.sqi (by assumption) 1 (by rfl)
  | exact Own.sqi (by assumption) 2 (by rfl)
  | exact Own.sqi (by assumption) 3 (by rfl)
  | exact Own.sqi (by assumption) 4 (by rfl)
  | exact Own.sq (by assumption) (by assumption)
  | exact sq_new (by assumption) (by assumption))
local macro_rules | `(tactic| clean_wf) => `(tactic| first
  | with_reducible exact ev_c
  | (with_reducible apply ev_v') <;> rfl
  | (with_reducible apply ev_add) <;> clean_wf
  | (with_reducible apply ev_sub) <;> clean_wf
  | (with_reducible apply ev_mul) <;> clean_wf
  | (with_reducible apply ev_mod) <;> clean_wf
  | (with_reducible apply ev_div) <;> clean_wf
  | (with_reducible apply ev_pow) <;> clean_wf
  | (with_reducible apply ev_neg) <;> clean_wf
  | (with_reducible apply ev_lt) <;> clean_wf
  | (with_reducible apply ev_le) <;> clean_wf
  | (with_reducible apply ev_gt) <;> clean_wf
  | (with_reducible apply ev_ge) <;> clean_wf
  | (with_reducible apply ev_eqi) <;> clean_wf
  | (with_reducible apply ev_nei) <;> clean_wf
  | (with_reducible apply ev_len) <;> clean_wf
  | (with_reducible apply ev_ixL) <;> clean_wf
  | (with_reducible apply ev_min) <;> clean_wf
  | (with_reducible apply ev_max) <;> clean_wf
  | (with_reducible apply ev_abs) <;> clean_wf
  | (with_reducible apply ev_intB) <;> clean_wf
  | (with_reducible apply ea_1) <;> clean_wf
  | (with_reducible apply ea_2) <;> clean_wf
  | (with_reducible apply ea_3) <;> clean_wf
  | with_reducible exact ea_nil
  | (with_reducible apply ea_cons) <;> clean_wf
  | with_reducible exact el_nil
  | (with_reducible apply ep_lt) <;> clean_wf
  | (with_reducible apply ep_le) <;> clean_wf
  | (with_reducible apply ep_gt) <;> clean_wf
  | (with_reducible apply ep_ge) <;> clean_wf
  | (with_reducible apply ep_eqi) <;> clean_wf
  | (with_reducible apply ep_nei) <;> clean_wf
  | (with_reducible apply ep_not) <;> clean_wf
  | ((with_reducible apply ep_and) <;> first | (intro _; clean_wf; done) | clean_wf)
  | ((with_reducible apply ep_or) <;> first | (intro _; clean_wf; done) | clean_wf)
  | (with_reducible apply et_t) <;> clean_wf
  | (with_reducible apply eo_is) <;> clean_wf
  | with_reducible exact eo_no
  | array_get_dec
  | bv_omega
  | rfl
  | skip)
local macro_rules | `(tactic| symm_saturate) => `(tactic| first
  | ((with_reducible apply q_set); (focus (clean_wf; done)))
  | ((with_reducible apply s_set); (focus (clean_wf; done)))
  | ((with_reducible apply q_aug (hx := rfl)); (focus (clean_wf; done)))
  | ((with_reducible apply s_aug (hx := rfl)); (focus (clean_wf; done)))
  | ((with_reducible apply q_augC (hx := rfl)); (focus (clean_wf; done)))
  | ((with_reducible apply s_augC (hx := rfl)); (focus (clean_wf; done))))
local macro_rules | `(tactic| subst_eqs) => `(tactic| repeat' (first
  | with_reducible apply w_c
  | ((with_reducible apply w_v'); (focus rfl))
  | with_reducible apply w_op
  | with_reducible apply w_cb
  | with_reducible apply w_cons
  | with_reducible apply w_nil
  | with_reducible apply r_add
  | with_reducible apply r_sub
  | ((with_reducible apply r_mul); (focus (bv_omega; done)))
  | ((with_reducible apply r_div); (focus (bv_omega; done)))
  | ((with_reducible apply r_mod); (focus (bv_omega; done)))
  | ((with_reducible apply r_pow); (focus (bv_omega; done)))
  | with_reducible apply r_lt
  | with_reducible apply r_le
  | with_reducible apply r_gt
  | with_reducible apply r_ge
  | with_reducible apply r_min
  | with_reducible apply r_max
  | with_reducible apply r_intB
  | ((with_reducible apply r_len); (focus (array_get_dec; done)))
  | with_reducible apply w_callW
  | with_reducible apply q_setW
  | with_reducible apply s_setW
  | with_reducible apply s_retW))

/-! ### the two numbers, the second at most the bound -/
def sp_law_gapM (K : PySem.W.Frag) : Sp := fun vs H Q _ => Nod H ∧ ∃ (a r : Addr) (ds : List Int) (row : List Nat) (m : Nat), vs = [.ref a, .ref r, .int (m : Int)] ∧ H a = some (.lst (ds.map V.int)) ∧ DrOk ds ∧ SqL K H r (zv row) ∧ r ≠ a ∧ Rw row ∧ row ≠ [] ∧ row.length ≤ 5 ∧ 1 ≤ m ∧ m ≤ 10 ^ 12 ∧
  ∀ (t : Addr) (low high : Nat) (ds' : List Int), t ≠ a → H t = none → 0 < low → low < 2 ^ 59 → high ≤ m → DrOk ds' → Q (.ref t) (upd (upd H a (.lst (ds'.map V.int))) t (.tup (pvals ((low : Int), (high : Int)))))
/-- slots: draws row most number ahead behind_it way far low -/
abbrev n_law_gapM : List Str := ["draws", "row", "most", "number", "ahead", "behind_it", "way", "far", "low"]
def t_law_gapM (K : PySem.W.Frag) : TS := (sFg (tSeq (tAsg (tCB cMax (tCons (tC (.int 1)) (tCons (tCall (sp_law_number K) [] E0 (tCons (tVar 0) (tCons (tVar 2) tNil))) tNil))) (gName 3))
  (tSeq (tAsg (tCall (sp_law_last K) [] E0 (tCons (tVar 1) (tCons (tOp oAdd (tVar 3) (tC (.int 1))) tNil))) (gName 4))
  (tSeq (tAsg (tCB cMin (tCons (tOp oAdd (tVar 2) (tC (.int 1))) (tCons (tCall (sp_law_next K) [] E0 (tCons (tVar 1) (tCons (tVar 3) tNil))) tNil))) (gName 5))
  (tSeq (tAsg (tIf (tTest (tOp oIsN (tVar 4) (tC .non))) (tC (.int 0)) (tVar 4)) (gName 4))
  (tSeq (tAsg (tCall (sp_law_take K) [] E0 (tCons (tVar 0) (tCons (tC (.int 12)) tNil))) (gName 6))
  (tSeq (tIfS (tTest (tOp rEq (tVar 6) (tC (.int 8)))) (tRet (tTup (tCons (tVar 3) (tCons (tCall (sp_law_number K) [] E0 (tCons (tVar 0) (tCons (tVar 2) tNil))) tNil)))) tNext)
  (tSeq (tIfS (tTest (tOp rEq (tVar 6) (tC (.int 9)))) (tRet (tTup (tCons (tCB cMax (tCons (tC (.int 1)) (tCons (tOp oSub (tVar 4) (tCall (sp_law_take K) [] E0 (tCons (tVar 0) (tCons (tC (.int 1000)) tNil)))) tNil))) (tCons (tCB cMin (tCons (tVar 2) (tCons (tOp oAdd (tVar 5) (tCall (sp_law_take K) [] E0 (tCons (tVar 0) (tCons (tC (.int 1000)) tNil)))) tNil))) tNil)))) tNext)
  (tSeq (tAsg (tOp oAdd (tOp oAdd (tOp oMul (tCall (sp_law_take K) [] E0 (tCons (tVar 0) (tCons (tC (.int 1000)) tNil))) (tOp oPow (tC (.int 10)) (tC (.int 9)))) (tOp oMul (tCall (sp_law_take K) [] E0 (tCons (tVar 0) (tCons (tC (.int 1000)) tNil))) (tOp oPow (tC (.int 10)) (tC (.int 4))))) (tCall (sp_law_take K) [] E0 (tCons (tVar 0) (tCons (tC (.int 1000)) tNil)))) (gName 7))
  (tSeq (tIfS (tTest (tOp rEq (tVar 6) (tC (.int 10)))) (tRet (tTup (tCons (tVar 3) (tCons (tOp oMod (tVar 7) (tVar 3)) tNil)))) tNext)
  (tSeq (tIfS (tTest (tOp rEq (tVar 4) (tVar 2))) (tRet (tTup (tCons (tVar 2) (tCons (tVar 2) tNil)))) tNext)
  (tSeq (tIfS (tTest (tOp oLt (tVar 6) (tC (.int 3)))) (tRet (tTup (tCons (tOp oAdd (tVar 4) (tC (.int 1))) (tCons (tCB cMin (tCons (tVar 2) (tCons (tCB cMax (tCons (tOp oAdd (tVar 4) (tC (.int 1))) (tCons (tOp oSub (tVar 5) (tC (.int 1))) tNil))) tNil))) tNil)))) tNext)
  (tSeq (tIfS (tTest (tOp rEq (tVar 6) (tC (.int 3)))) (tRet (tTup (tCons (tVar 3) (tCons (tCB cMin (tCons (tVar 2) (tCons (tOp oAdd (tVar 3) (tCall (sp_law_take K) [] E0 (tCons (tVar 0) (tCons (tC (.int 9)) tNil)))) tNil))) tNil)))) tNext)
  (tSeq (tIfS (tTest (tOp rEq (tVar 6) (tC (.int 4)))) (tRet (tTup (tCons (tCB cMax (tCons (tC (.int 1)) (tCons (tVar 4) tNil))) (tCons (tCB cMin (tCons (tVar 2) (tCons (tOp oSub (tVar 5) (tC (.int 1))) tNil))) tNil)))) tNext)
  (tSeq (tIfS (tTest (tOp rEq (tVar 6) (tC (.int 5)))) (tRet (tTup (tCons (tOp oAdd (tVar 4) (tC (.int 1))) (tCons (tCB cMin (tCons (tVar 2) (tCons (tVar 5) tNil))) tNil)))) tNext)
  (tSeq (tIfS (tTest (tOp rEq (tVar 6) (tC (.int 6)))) (tRet (tTup (tCons (tVar 3) (tCons (tOp oSub (tOp oSub (tVar 3) (tC (.int 1))) (tOp oMod (tCall (sp_law_take K) [] E0 (tCons (tVar 0) (tCons (tC (.int 9)) tNil))) (tVar 3))) tNil)))) tNext)
  (tSeq (tAsg (tOp oAdd (tOp oAdd (tVar 4) (tC (.int 1))) (tOp oMod (tVar 7) (tCB cMax (tCons (tC (.int 1)) (tCons (tOp oSub (tOp oSub (tVar 5) (tVar 4)) (tC (.int 1))) tNil))))) (gName 8))
  (tRet (tTup (tCons (tVar 8) (tCons (tCB cMin (tCons (tVar 2) (tCons (tCB cMax (tCons (tVar 8) (tCons (tOp oSub (tOp oSub (tVar 5) (tC (.int 1))) (tCall (sp_law_take K) [] E0 (tCons (tVar 0) (tCons (tC (.int 3)) tNil)))) tNil))) tNil))) tNil)))))))))))))))))))))
theorem r_law_gapM {K : PySem.W.Frag} {vs : List V} {H : Hp} {Q : VK} {E : XK} (h : sp_law_gapM K vs H Q E) : t_law_gapM K { nx := fun _ H' => Q .non H', rt := Q } (start n_law_gapM vs) H := by
  obtain ⟨nd, a, r, ds, row, m, rfl, ha, ok, sr, hra, w, hne, h5, hm1, hm2, q⟩ := h
  have o : Own (del H a) [(a, ds.map V.int)] H := .enter ha
  have sd : SqL K (del H a) r (zv row) := del_sq hra sr
  have g := w.good
  have fin : ∀ (lo hi : Int) (ds : List Int) (H' : Hp), DrOk ds → Own (del H a) [(a, ds.map V.int)] H' → 0 < lo ∧ lo < 2 ^ 59 ∧ 0 ≤ hi ∧ hi ≤ (m : Int) → ([V.int lo, .int hi].length ≤ sizeLine ∧ ∀ t, H' t = none → ∃ H'', Fg H (upd H' t (.tup [.int lo, .int hi])) H'' ∧ Q (.ref t) H'') := fun lo hi ds H' ok o hb => ⟨by show 2 ≤ sizeLine; decide, fun t ht => by
    obtain ⟨h0, hta, f⟩ := o.exitT (zs := [.int lo, .int hi]) ha 0 rfl ht
    obtain ⟨lo, rfl⟩ : ∃ n : Nat, lo = (n : Int) := ⟨lo.toNat, by omega⟩
    obtain ⟨hi, rfl⟩ : ∃ n : Nat, hi = (n : Int) := ⟨hi.toNat, by omega⟩
    exact ⟨_, f, q t lo hi ds hta h0 (by omega) (by omega) (by omega) ok⟩⟩
  refine fg_body (q_setW (w_cb (w_cons (w_c (w_one (w_callW (w_cons (w_v 0 (w_one (w_v 2 ?_)))))))))) 
  refine o.numberC 0 rfl ok (by omega) fun n0 ds H2 hn0 ok o => ?_
  replace o : Own (del H a) [(a, ds.map V.int)] H2 := o
  refine r_max ?_
  obtain ⟨n, en, hn1, hnm⟩ : ∃ n : Nat, (if (n0 : Int) > 1 then (n0 : Int) else 1) = (n : Int) ∧ 1 ≤ n ∧ n ≤ m := ⟨max 1 n0, by split <;> omega, by omega, by omega⟩
  rw [en]
  have hb12 : n ≤ 10 ^ 12 := by omega
  have hdl : (row.drop 1).length ≤ 4 := by rw [List.length_drop]; omega
  have f1 : Fits (row.drop 1) (n + 1 - 1) := .inl ⟨hdl, by omega⟩
  have f2 : Fits (row.drop 1) (n * 97) := .inl ⟨hdl, by omega⟩
  have n2 := o.nod
  have hl := lst_is (row := row) (n := n + 1) (by omega)
  have hlp := mk_pos g.ge hl.made
  have hll := hl.lt
  have hx := nxt_is g hne n
  have hxg := hx.gt
  have elast : lastV row (n + 1) = .int (lst row (n + 1) : Int) := if_neg (by omega)
  refine q_set (v := .int (lst row (n + 1) : Int)) (ev_eq (ev_call (v := lastV row (n + 1)) (ea_2 (ev_v 1) (ev_eq (y := .int ((n + 1 : Nat) : Int)) (ev_add (i := (n : Int)) (ev_v 3) ev_c) rfl)) fun Q q => ⟨n2, r, row, n + 1, rfl, o.sq sd, w, hne, f1, q⟩) elast) ?_
  refine q_set (ev_min (ev_add (i := (m : Int)) (ev_v 2) ev_c) (ev_call (v := .int (nxt row n : Int)) (ea_2 (ev_v 1) (ev_v 3)) fun Q q => ⟨n2, r, row, n, rfl, o.sq sd, w, hne, f2, by omega, q⟩)) ?_
  obtain ⟨be, ebe, hbe1, hbe2⟩ : ∃ be : Nat, (if (nxt row n : Int) < (m : Int) + 1 then (nxt row n : Int) else (m : Int) + 1) = (be : Int) ∧ n < be ∧ be ≤ m + 1 := ⟨min (nxt row n) (m + 1), by split <;> omega, by omega, by omega⟩
  rw [ebe]
  generalize lst row (n + 1) = A at hlp hll
  refine q_set (v := .int (A : Int)) (ev_if (b := false) (et_eq (et_t (ev_isN (x := .int (A : Int)) (ev_v 4))) (by simp)) (fun z => nomatch z) fun _ => ev_v 4) ?_
  refine q_setW (w_callW (w_cons (w_v 0 (w_one (w_c ?_)))))
  refine o.take 0 rfl ok (by omega) fun wy ds H3 hwy ok o => ?_
  replace o : Own (del H a) [(a, ds.map V.int)] H3 := o
  refine q_whenP (ep_eqi (ev_v 6) ev_c) (fun hw => ?_) fun _ => ?_
  · refine s_retW (w_tupW (w_cons (w_v 3 (w_one (w_callW (w_cons (w_v 0 (w_one (w_v 2 ?_)))))))))
    refine o.numberC 0 rfl ok (by omega) fun n1 ds H4 hn1 ok o => fin _ _ ds H4 ok o (by omega)
  refine q_whenP (ep_eqi (ev_v 6) ev_c) (fun hw => ?_) fun _ => ?_
  · refine s_retW (w_tupW (w_cons (w_cb (w_cons (w_c (w_one (w_op (w_v 4 (w_callW (w_cons (w_v 0 (w_one (w_c ?_)))))))))))))
    refine o.take 0 rfl ok (by omega) fun t1 ds H4 ht1 ok o => r_sub (r_max (w_one (w_cb (w_cons (w_v 2 (w_one (w_op (w_v 5 (w_callW (w_cons (w_v 0 (w_one (w_c ?_)))))))))))))
    refine o.take 0 rfl ok (by omega) fun t2 ds H5 ht2 ok o => r_add (r_min (fin _ _ ds H5 ok o ?_))
    refine ⟨by split <;> omega, by split <;> omega, by split <;> omega, by split <;> omega⟩
  refine q_setW (w_op (w_op (w_op (w_callW (w_cons (w_v 0 (w_one (w_c ?_))))))))
  refine o.take 0 rfl ok (by omega) fun t1 ds H4 ht1 ok o => ?_
  replace o : Own (del H a) [(a, ds.map V.int)] H4 := o
  refine w_ev (ev_pow ev_c ev_c (cp (by omega))) ?_
  rw [g9]
  refine r_mul (cm (by omega)) (w_op (w_callW (w_cons (w_v 0 (w_one (w_c ?_))))))
  refine o.take 0 rfl ok (by omega) fun t2 ds H5 ht2 ok o => ?_
  replace o : Own (del H a) [(a, ds.map V.int)] H5 := o
  refine w_ev (ev_pow ev_c ev_c (cp (by omega))) ?_
  rw [g4]
  refine r_mul (cm (by omega)) (r_add (w_callW (w_cons (w_v 0 (w_one (w_c ?_))))))
  refine o.take 0 rfl ok (by omega) fun t3 ds H6 ht3 ok o => r_add ?_
  replace o : Own (del H a) [(a, ds.map V.int)] H6 := o
  obtain ⟨far, efar, hfar⟩ : ∃ far : Nat, t1 * 1000000000 + t2 * 10000 + t3 = (far : Int) ∧ far < 2 ^ 58 := ⟨(t1 * 1000000000 + t2 * 10000 + t3).toNat, by omega, by omega⟩
  rw [efar]
  refine q_whenP (ep_eqi (ev_v 6) ev_c) (fun hw => ?_) fun _ => ?_
  · have := Nat.mod_lt far (show 0 < n by omega)
    exact s_retW (w_tupW (ea_2 (ev_v 3) (ev_eq (y := .int ((far % n : Nat) : Int)) (ev_mod (i := (far : Int)) (j := (n : Int)) (ev_v 7) (ev_v 3) (by omega)) (by simp)) _ (fin _ _ ds H6 ok o (by omega))))
  refine q_whenP (ep_eqi (i := (A : Int)) (j := (m : Int)) (ev_v 4) (ev_v 2)) (fun hw => ?_) fun hAm => ?_
  · exact s_retW (w_tupW (ea_2 (ev_v 2) (ev_v 2) _ (fin _ _ ds H6 ok o (by omega))))
  refine q_whenP (ep_lt (ev_v 6) ev_c) (fun hw => ?_) fun _ => ?_
  · refine s_retW (w_tupW (ea_2 (ev_add (i := (A : Int)) (ev_v 4) ev_c) (ev_min (i := (m : Int)) (ev_v 2) (ev_max (ev_add (i := (A : Int)) (ev_v 4) ev_c) (ev_sub (i := (be : Int)) (ev_v 5) ev_c))) _ (fin _ _ ds H6 ok o ?_)))
    refine ⟨by omega, by omega, ?_, ?_⟩ <;> (split <;> split <;> omega)
  refine q_whenP (ep_eqi (ev_v 6) ev_c) (fun hw => ?_) fun _ => ?_
  · refine s_retW (w_tupW (w_cons (w_v 3 (w_one (w_cb (w_cons (w_v 2 (w_one (w_op (w_v 3 (w_callW (w_cons (w_v 0 (w_one (w_c ?_)))))))))))))))
    refine o.take 0 rfl ok (by omega) fun t4 ds H7 ht4 ok o => r_add (r_min (fin _ _ ds H7 ok o ?_))
    refine ⟨by omega, by omega, by split <;> omega, by split <;> omega⟩
  refine q_whenP (ep_eqi (ev_v 6) ev_c) (fun hw => ?_) fun _ => ?_
  · refine s_retW (w_tupW (ea_2 (ev_max (j := (A : Int)) ev_c (ev_v 4)) (ev_min (i := (m : Int)) (ev_v 2) (ev_sub (i := (be : Int)) (ev_v 5) ev_c)) _ (fin _ _ ds H6 ok o ?_)))
    refine ⟨by split <;> omega, by split <;> omega, by split <;> omega, by split <;> omega⟩
  refine q_whenP (ep_eqi (ev_v 6) ev_c) (fun hw => ?_) fun _ => ?_
  · refine s_retW (w_tupW (ea_2 (ev_add (i := (A : Int)) (ev_v 4) ev_c) (ev_min (i := (m : Int)) (j := (be : Int)) (ev_v 2) (ev_v 5)) _ (fin _ _ ds H6 ok o ?_)))
    refine ⟨by omega, by omega, by split <;> omega, by split <;> omega⟩
  refine q_whenP (ep_eqi (ev_v 6) ev_c) (fun hw => ?_) fun _ => ?_
  · refine s_retW (w_tupW (w_cons (w_v 3 (w_one (w_op (w_ev (ev_sub (i := (n : Int)) (ev_v 3) ev_c) (w_op (w_callW (w_cons (w_v 0 (w_one (w_c ?_)))))))))))) 
    refine o.take 0 rfl ok (by omega) fun t4 ds H7 ht4 ok o => w_v (v := .int (n : Int)) 3 (r_mod (by omega) (r_sub (fin _ _ ds H7 ok o ?_)))
    have h1 := Int.emod_nonneg t4 (b := (n : Int)) (by omega)
    have h2 := Int.emod_lt_of_pos t4 (b := (n : Int)) (by omega)
    omega
  obtain ⟨bm, ebm, hbm1, hbm2⟩ : ∃ bm : Nat, (if (be : Int) - (A : Int) - 1 > 1 then (be : Int) - (A : Int) - 1 else 1) = (bm : Int) ∧ 0 < bm ∧ bm ≤ 10 ^ 12 + 1 := ⟨(if (be : Int) - (A : Int) - 1 > 1 then (be : Int) - (A : Int) - 1 else 1).toNat, by split <;> omega, by split <;> omega, by split <;> omega⟩
  have hfm := Nat.mod_lt far hbm1
  refine q_set (v := .int ((A + 1 + far % bm : Nat) : Int)) (ev_eq (ev_add (ev_add (i := (A : Int)) (ev_v 4) ev_c) (ev_mod (i := (far : Int)) (j := (bm : Int)) (ev_v 7) (ev_eq (ev_max ev_c (ev_sub (ev_sub (i := (be : Int)) (j := (A : Int)) (ev_v 5) (ev_v 4)) ev_c)) (by rw [ebm])) (by omega))) (by simp)) ?_
  refine s_retW (w_tupW (w_cons (w_v 8 (w_one (w_cb (w_cons (w_v 2 (w_one (w_cb (w_cons (w_v 8 (w_one (w_op (w_ev (ev_sub (i := (be : Int)) (ev_v 5) ev_c) (w_callW (w_cons (w_v 0 (w_one (w_c ?_)))))))))))))))))))
  refine o.take 0 rfl ok (by omega) fun t4 ds H7 ht4 ok o => r_sub (r_max (r_min (fin _ _ ds H7 ok o ?_)))
  refine ⟨by omega, by omega, ?_, ?_⟩ <;> (split <;> (try split) <;> omega)
theorem Own.gapM {K : PySem.W.Frag} {B H : Hp} {L : List (Addr × List V)} {p r : Addr} {ds : List Int} {row : List Nat} {m : Nat} {Q : VK} {E : XK} (o : Own B L H) (i : Nat) (h : L[i]? = some (p, ds.map V.int)) (ok : DrOk ds) (hr : SqL K H r (zv row)) (hrp : r ≠ p) (w : Rw row) (hne : row ≠ []) (h5 : row.length ≤ 5) (hm : 1 ≤ m ∧ m ≤ 10 ^ 12)
    (k : ∀ (t : Addr) (low high : Nat) (ds' : List Int) (H2 : Hp), 0 < low → low < 2 ^ 59 → high ≤ m → DrOk ds' → H2 t = some (.tup (pvals ((low : Int), (high : Int)))) → Own B (L.set i (p, ds'.map V.int)) H2 → Q (.ref t) H2) : sp_law_gapM K ([.ref p, .ref r, .int (m : Int)] ++ []) H Q E :=
  ⟨o.nod, p, r, ds, row, m, rfl, o.atI i h, ok, hr, hrp, w, hne, h5, hm.1, hm.2, fun t low high ds' htp ht h1 h2 h3 ok' => k t low high ds' _ h1 h2 h3 ok' upd_same ((o.mut i h).tup (by rw [upd_ne htp]; exact ht))⟩
end Px
set_option Elab.async false
set_option linter.all false
set_option maxRecDepth 100000
set_option maxHeartbeats 4000000
namespace Px
open PySem PySem.Spec PyProof.Rows L2
/-! ### a comprehension within one: what it captures are the outer one's cells -/
def Capt (sc : Scope) : List PySem.Str → Prop
  | [] => True
  | x :: r => (sc.names.lookup x = some .cell ∨ sc.names.lookup x = some .free) ∧ Capt sc r
theorem capt_mem {sc : Scope} : ∀ {caps : List PySem.Str} {x : PySem.Str}, Capt sc caps → x ∈ caps → sc.names.lookup x = some .cell ∨ sc.names.lookup x = some .free
  | [], _, _, h => absurd h List.not_mem_nil
  | y :: r, x, h, hx => by
    rcases List.mem_cons.mp hx with rfl | hx
    · exact h.1
    · exact capt_mem h.2 hx
theorem lookup_caps : ∀ {caps : List PySem.Str} {x : PySem.Str} {k : NameKind}, (caps.map fun y => (y, NameKind.cell)).lookup x = some k → x ∈ caps
  | [], _, _, h => by cases h
  | y :: r, x, k, h => by
    rw [List.map_cons, List.lookup_cons] at h
    cases e : x == y with
    | true => rw [eq_of_beq e]; exact List.mem_cons_self
    | false => rw [e] at h; exact List.mem_cons_of_mem _ (lookup_caps h)
theorem blkOk_cap {N : List PySem.Str} {sc scope : Scope} {own : List (PySem.Str × Nat)} (caps : List PySem.Str) (h : blkC N { kind := .function, names := caps.map fun y => (y, NameKind.cell), isGenerator := false, isCoroutine := false } scope own = true) (hc : Capt sc caps) : BlkOk N sc scope own :=
  let k := blkOk_by h
  ⟨k.kind, k.uniq, k.ix, fun y hy e => capt_mem hc ((k.free y hy e).elim lookup_caps lookup_caps), k.own⟩
/-! ### xs[lo::step] -/
def stepV (xs : List V) (lo : Option Int) (st : Int) : List V :=
  (sliceRange (sliceBounds lo none (some st) xs.length).1 (sliceBounds lo none (some st) xs.length).2.1 (sliceBounds lo none (some st) xs.length).2.2).filterMap (xs[·]?)
theorem vals_pick {xs : List V} {us : List Value} (r : Vals xs us) : ∀ (is : List Nat), Vals (is.filterMap (xs[·]?)) (is.filterMap (us[·]?))
  | [] => .nil
  | i :: is => by
    have ih := vals_pick r is
    cases e : xs[i]? with
    | none =>
      have : us[i]? = none := by
        rw [List.getElem?_eq_none_iff] at e ⊢
        rw [← r.length]; exact e
      rw [List.filterMap_cons_none (by exact e), List.filterMap_cons_none (by exact this)]
      exact ih
    | some x =>
      obtain ⟨u, h1, h2⟩ := Vals.get r e
      rw [List.filterMap_cons_some (by exact e), List.filterMap_cons_some (by exact h1)]
      exact .cons h2 ih
def tStepL (K : PySem.W.Frag) (te : TE) (tl ts : TO) : TE := fun σ H Q => te σ H fun x H1 => tl σ H1 fun l H2 => ts σ H2 fun o H3 => ∃ (st : Int) (a : Addr) (xs : List V), o = some st ∧ st ≠ 0 ∧ x = .ref a ∧ SqL K H3 a xs ∧ (stepV xs l st).length ≤ sizeLine ∧ ∀ p, H3 p = none → Q (.ref p) (upd H3 p (.lst (stepV xs l st)))
section
variable {X : Cx}
theorem pe_stepL {e : Expr} {el : Option Expr} {es : Expr} {te : TE} {tl ts : TO} {p3 pos : Pos} (he : PE X e te) (hl : PO X el tl) (hs : PO X (some es) ts)
    (hq : ∀ a b, subscripted (.Slice el none (some es) p3) false (.ref a) (.ref b) = operate [.ref a, .ref b] (getItem (.ref a) (.ref b)) := by intros; with_unfolding_all rfl) :
    PE X (.Subscript e (.Slice el none (some es) p3) pos) (tStepL X.K te tl ts) := by
  refine ⟨fun pins s σ H Q I h => ?_⟩
  refine Subscript_ (thn (he.run pins s σ H _ I h) fun v s1 ⟨x, H1, I1, r1, q1⟩ => ?_)
  refine wpAny_Slice (thn (hl.run pins s1 σ H1 _ I1 q1) fun vl s2 ⟨l, H2, I2, pl, q2⟩ => ?_)
  refine thn (po_none.run pins s2 σ H2 (fun o H3 => o = none ∧ H3 = H2) I2 ⟨rfl, rfl⟩) fun vu s3 ⟨u, H3, I3, pu, eu, e3⟩ => ?_
  subst eu e3
  refine thn (hs.run pins s3 σ H3 _ I3 q2) fun vs s4 ⟨o, H4, I4, ps, q4⟩ => ?_
  obtain ⟨st, a, xs, rfl, h0, ex, hx, hsz, q⟩ := q4
  subst ex
  cases r1
  have I5 : Inv X pins σ H4 { s4 with heap := s4.heap.push { cls := .type "slice", data := .fields #[vl, vu, vs] } } := I4.kept (t' := s4.toks) fun b ob q => Heap.get?_push_of_some _ q
  obtain ⟨its, r, ht, hz⟩ := I5.list hx
  have hlen := r.length
  show wpAny (model X.prog X.w) X.A (subscriptTail e (.Slice el none (some es) p3) (.ref a) (.ref s4.heap.objs.size)) (EP X pins σ Q) X.xe { s4 with heap := s4.heap.push { cls := .type "slice", data := .fields #[vl, vu, vs] } }
  refine tail_any (ops := [.ref a, .ref s4.heap.objs.size]) ht.isList.typeIs (PySem.slot_list_getitem.lookup) ?_ (hq _ _)
  refine wpAny_getItem_list_slice ht.isList (Heap.IsSliceOf.new _ vl vu vs) pl pu ps (fun z => h0 (Option.some.inj z)) ?_ (by rw [List.size_toArray]; omega)
  have e : slicePick its.toArray l none (some st) = ((sliceRange (sliceBounds l none (some st) xs.length).1 (sliceBounds l none (some st) xs.length).2.1 (sliceBounds l none (some st) xs.length).2.2).filterMap (its[·]?)).toArray := by
    unfold slicePick
    rw [List.size_toArray, ← hlen]
    congr 1
    refine congrArg (fun f => List.filterMap f _) (funext fun i => ?_)
    simp
  rw [e]
  refine ⟨.ref _, _, I5.laid (t' := s4.toks) (o := .lst (stepV xs l st)) (fun b ob q => Heap.get?_push_of_some _ q) (Nat.le_refl _) ?_, rfl, q _ (I5.hok.fresh (Nat.le_refl _))⟩
  exact ⟨hsz, _, 0, vals_pick r _, Heap.get?_push_size _ rfl⟩
end
section
variable {K : PySem.W.Frag} {σ : L2.St} {H : Hp} {te : TE} {tl ts : TO} {Q : VK}
theorem w_step {l : Option Int} {st : Int} {a : Addr} {xs : List V} (he : Ev te σ H (.ref a)) (hl : ∀ Q : Option Int → Hp → Prop, Q l H → tl σ H Q) (hs : ∀ Q : Option Int → Hp → Prop, Q (some st) H → ts σ H Q) (h0 : st ≠ 0) (sq : SqL K H a xs) (hz : (stepV xs l st).length ≤ sizeLine)
    (q : ∀ p, H p = none → Q (.ref p) (upd H p (.lst (stepV xs l st)))) : tStepL K te tl ts σ H Q := he _ (hl _ (hs _ ⟨st, a, xs, rfl, h0, rfl, sq, hz, q⟩))
end
end Px
set_option Elab.async false
set_option linter.all false
set_option maxRecDepth 100000
set_option maxHeartbeats 4000000
namespace Px
open PySem PySem.Spec PyProof.Rows L2
/-! ### (x, y)[::-1] -/
def tRevT (K : PySem.W.Frag) (te : TE) : TE := fun σ H Q => te σ H fun x H1 => ∃ (a : Addr) (y z : V), x = .ref a ∧ SqT K H1 a [y, z] ∧ ∀ p, H1 p = none → Q (.ref p) (upd H1 p (.tup [z, y]))
section
variable {prog : Program} {w : World} {A : Around} {E : Value → Shared → Prop} {s : Shared}
theorem applied_rev2 {sl : Addr} {vs : Value} {Q : Int × Int × Nat → Shared → Prop} (hs : s.heap.IsSliceOf sl .none .none vs) (ps : IsPart vs (some (-1))) (h : Q (1, -1, 2) s) : wpAny (model prog w) A (Builtin.Slice.sliceApplied (.ref sl) (pure (2 : Int))) Q E s := by
  obtain ⟨os, hos, hcs, hds⟩ := id hs
  cases ps with
  | int i t =>
    unfold Builtin.Slice.sliceApplied Builtin.Slice.sliceFields
    refine wpAny_bind (wpAny_bind (wpAny_field hos hds (x := .none) rfl (wpAny_bind (wpAny_field hos hds (x := .none) rfl (wpAny_bind (wpAny_field hos hds (x := .int (-1) t) rfl (wpAny_pure ?_)))))))
    refine wpAny_bind (slicePart_int ?_)
    show wpAny _ _ (if ((-1 : Int) == 0) = true then _ else _) _ _ s
    rw [if_neg (by decide)]
    refine wpAny_bind (slicePart_none (wpAny_bind (slicePart_none (wpAny_bind (wpAny_pure ?_)))))
    exact wpAny_pure h
theorem getItem_rev2 {t sl : Addr} {u0 u1 : Value} {vs : Value} {Q : Value → Shared → Prop} (ht : IsTup s.heap t #[u0, u1]) (hs : s.heap.IsSliceOf sl .none .none vs) (ps : IsPart vs (some (-1)))
    (h : Q (.ref s.heap.objs.size) { s with heap := s.heap.push { cls := .type "tuple", data := .seq #[u1, u0] } }) : wpAny (model prog w) A (getItem (.ref t) (.ref sl)) Q E s := by
  have htake : sizeOk (.seq #[u1, u0]) := by show 2 ≤ sizeLine; decide
  obtain ⟨os, hos, hcs, hds⟩ := id hs
  have hTs : s.TypeIs (.ref sl) "slice" := ⟨os, hos, hcs⟩
  unfold getItem
  try with_reducible refine wpAny_holding ?_
  first | refine wpAny_bind (wpAny_pure ?_) | skip
  refine wpAny_bind (wpAny_sequenceKey ht.typeIs (by decide) ?_)
  refine wpAny_bind (wpAny_callSpecial?_slot (name := Str.ofString "__getitem__") ht.typeIs PyProof.Rows.slot_tuple_getitem
    (wpAny_call_entry PyProof.Rows.slot_tuple_getitem ht.typeIs entry_tuple_getitem ?_ (args_tuple_getitem _ _)))
  show wpAny _ _ (Builtin.Tuple.tupleItemsOf (.ref t) >>= _) _ _ s
  refine wpAny_bind (tupleItemsOf_ ht ?_)
  refine wpAny_bind (wpAny_typeOf hTs ?_)
  rw [if_pos (by decide)]
  refine wpAny_bind (applied_rev2 hs ps ?_)
  show wpAny _ _ (if (((1 : Int) == 0) && ((-1 : Int) == 1) && ((2 : Nat) == (#[u0, u1] : Array Value).size)) = true then _ else _) _ _ s
  rw [if_neg (by simp)]
  have e : ((List.range 2).filterMap fun (m : Nat) => (#[u0, u1] : Array Value)[((1 : Int) + (m : Int) * (-1)).toNat]?).toArray = #[u1, u0] := rfl
  rw [e]
  first
    | exact wpAny_bind (m := Builtin.Tuple.tupleExact _) (wpAny_newObj_type (wpAny_pure ⟨_, rfl, wpAny_pure h⟩) htake)
    | exact wpAny_bind (m := Builtin.Tuple.tupleExact _) (wpAny_newObj_type (wpAny_bind (wpAny_pure (wpAny_pure ⟨_, rfl, wpAny_pure h⟩))) htake)
    | exact wpAny_bind (wpAny_bind (m := Builtin.Tuple.tupleExact _) (wpAny_newObj_type (wpAny_pure (wpAny_pure ⟨_, rfl, wpAny_pure h⟩)) htake))
    | exact wpAny_bind (wpAny_bind (m := Builtin.Tuple.tupleExact _) (wpAny_newObj_type (wpAny_pure ⟨_, rfl, wpAny_pure h⟩) htake))
end
section
variable {X : Cx}
theorem pe_revT {e : Expr} {te : TE} {k : Nat} {p1 p2 p3 pos : Pos} (he : PE X e te) : PE X (.Subscript e (.Slice none none (some (.UnaryOp .USub (.Constant (.int 1) k p1) p2)) p3) pos) (tRevT X.K te) := by
  refine ⟨fun pins s σ H Q I h => ?_⟩
  refine Subscript_ (thn (he.run pins s σ H _ I h) fun v s1 ⟨x, H1, I1, r1, q1⟩ => ?_)
  obtain ⟨a, y, z, ex, hx, q⟩ := q1
  subst ex
  cases r1
  have hst : PO X (some (.UnaryOp .USub (.Constant (.int 1) k p1) p2)) (tPart (tUn (rU fun i => .int (-i)) (tC (.int 1)))) := po_some (pe_un un_neg pe_int)
  refine wpAny_Slice (thn (po_none.run pins s1 σ H1 (fun o H2 => o = none ∧ H2 = H1) I1 ⟨rfl, rfl⟩) fun vl s2 ⟨l, H2, I2, pl, el, e2⟩ => ?_)
  subst el e2
  refine thn (po_none.run pins s2 σ H2 (fun o H3 => o = none ∧ H3 = H2) I2 ⟨rfl, rfl⟩) fun vu s3 ⟨u, H3, I3, pu, eu, e3⟩ => ?_
  subst eu e3
  refine thn (hst.run pins s3 σ H3 (fun o H4 => o = some (-1) ∧ H4 = H3) I3 ⟨1, rfl, -1, rfl, rfl, rfl⟩) fun vs s4 ⟨o, H4, I4, ps, eo, e4⟩ => ?_
  subst eo e4
  cases pl
  cases pu
  have I5 : Inv X pins σ H4 { s4 with heap := s4.heap.push { cls := .type "slice", data := .fields #[.none, .none, vs] } } := I4.kept (t' := s4.toks) fun b ob q => Heap.get?_push_of_some _ q
  obtain ⟨its, r, ht, hz⟩ := I5.tuple hx
  obtain ⟨u0, u1, r0, r1, rfl⟩ : ∃ u0 u1, RelV y u0 ∧ RelV z u1 ∧ its = [u0, u1] := by
    cases r with
    | cons r1 r2 => cases r2 with
      | cons r2 r3 => cases r3; exact ⟨_, _, r1, r2, rfl⟩
  show wpAny (model X.prog X.w) X.A (subscriptTail e (.Slice none none (some (.UnaryOp .USub (.Constant (.int 1) k p1) p2)) p3) (.ref a) (.ref s4.heap.objs.size)) (EP X pins σ Q) X.xe { s4 with heap := s4.heap.push { cls := .type "slice", data := .fields #[.none, .none, vs] } }
  refine tail_any (ops := [.ref a, .ref s4.heap.objs.size]) ht.typeIs (PyProof.Rows.slot_tuple_getitem.lookup) ?_ (by with_unfolding_all rfl)
  refine getItem_rev2 (s := { s4 with heap := s4.heap.push { cls := .type "slice", data := .fields #[.none, .none, vs] } }) ht (Heap.IsSliceOf.new _ .none .none vs) ps ?_
  refine ⟨.ref _, _, I5.laid (t' := s4.toks) (o := .tup [z, y]) (fun b ob q => Heap.get?_push_of_some _ q) (Nat.le_refl _) ?_, rfl, q _ (I5.hok.fresh (Nat.le_refl _))⟩
  exact ⟨by show 2 ≤ sizeLine; decide, [u1, u0], .cons r1 (.cons r0 .nil), IsTup.new _ _⟩
end
theorem w_revT {K : PySem.W.Frag} {σ : L2.St} {H : Hp} {te : TE} {Q : VK} {a : Addr} {y z : V} (he : Ev te σ H (.ref a)) (hx : SqT K H a [y, z]) (q : ∀ p, H p = none → Q (.ref p) (upd H p (.tup [z, y]))) : tRevT K te σ H Q := he _ ⟨a, y, z, rfl, hx, q⟩
end Px
set_option Elab.async false
set_option linter.all false
set_option maxRecDepth 100000
set_option maxHeartbeats 4000000
namespace Px
open PySem L2 MA
local macro_rules | `(tactic| bv_omega) => `(tactic| first | assumption | omega | exact cm (by omega) | exact cd (by omega) | exact cp (by omega) | exact trivial)
local macro_rules | `(tactic| array_get_dec) => `(tactic| first
  | assumption
  | exact sq_up
  | exact Own.sqi (by assumption) 0 (by rfl)
  | exact Own.sqi (by assumption) 1 (by rfl)
  | exact Own.sqi (by assumption) 2 (by rfl)
  | exact Own.sqi (by assumption) 3 (by rfl)
  | exact Own.sqi (by assumption) 4 (by rfl)
  | exact Own.sq (by assumption) (by assumption)
  | exact sq_new (by assumption) (by assumption))
local macro_rules | `(tactic| clean_wf) => `(tactic| first
  | with_reducible exact ev_c
  | (with_reducible apply ev_v') <;> rfl
  | (with_reducible apply ev_add) <;> clean_wf
  | (with_reducible apply ev_sub) <;> clean_wf
  | (with_reducible apply ev_mul) <;> clean_wf
  | (with_reducible apply ev_mod) <;> clean_wf
  | (with_reducible apply ev_div) <;> clean_wf
  | (with_reducible apply ev_pow) <;> clean_wf
  | (with_reducible apply ev_neg) <;> clean_wf
  | (with_reducible apply ev_lt) <;> clean_wf
  | (with_reducible apply ev_le) <;> clean_wf
  | (with_reducible apply ev_gt) <;> clean_wf
  | (with_reducible apply ev_ge) <;> clean_wf
  | (with_reducible apply ev_eqi) <;> clean_wf
  | (with_reducible apply ev_nei) <;> clean_wf
  | (with_reducible apply ev_len) <;> clean_wf
  | (with_reducible apply ev_ixL) <;> clean_wf
  | (with_reducible apply ev_min) <;> clean_wf
  | (with_reducible apply ev_max) <;> clean_wf
  | (with_reducible apply ev_abs) <;> clean_wf
  | (with_reducible apply ev_intB) <;> clean_wf
  | (with_reducible apply ea_1) <;> clean_wf
  | (with_reducible apply ea_2) <;> clean_wf
  | (with_reducible apply ea_3) <;> clean_wf
  | with_reducible exact ea_nil
  | (with_reducible apply ea_cons) <;> clean_wf
  | with_reducible exact el_nil
  | (with_reducible apply ep_lt) <;> clean_wf
  | (with_reducible apply ep_le) <;> clean_wf
  | (with_reducible apply ep_gt) <;> clean_wf
  | (with_reducible apply ep_ge) <;> clean_wf
  | (with_reducible apply ep_eqi) <;> clean_wf
  | (with_reducible apply ep_nei) <;> clean_wf
  | (with_reducible apply ep_not) <;> clean_wf
  | ((with_reducible apply ep_and) <;> first | (intro _; clean_wf; done) | clean_wf)
  | ((with_reducible apply ep_or) <;> first | (intro _; clean_wf; done) | clean_wf)
  | (with_reducible apply et_t) <;> clean_wf
  | (with_reducible apply eo_is) <;> clean_wf
  | with_reducible exact eo_no
  | array_get_dec
  | bv_omega
  | rfl
  | skip)
local macro_rules | `(tactic| symm_saturate) => `(tactic| first
  | ((with_reducible apply q_set); (focus (clean_wf; done)))
  | ((with_reducible apply s_set); (focus (clean_wf; done)))
  | ((with_reducible apply q_aug (hx := rfl)); (focus (clean_wf; done)))
  | ((with_reducible apply s_aug (hx := rfl)); (focus (clean_wf; done)))
  | ((with_reducible apply q_augC (hx := rfl)); (focus (clean_wf; done)))
  | ((with_reducible apply s_augC (hx := rfl)); (focus (clean_wf; done))))
local macro_rules | `(tactic| subst_eqs) => `(tactic| repeat' (first
  | with_reducible apply w_c
  | ((with_reducible apply w_v'); (focus rfl))
  | with_reducible apply w_op
  | with_reducible apply w_cb
  | with_reducible apply w_cons
  | with_reducible apply w_nil
  | with_reducible apply r_add
  | with_reducible apply r_sub
  | ((with_reducible apply r_mul); (focus (bv_omega; done)))
  | ((with_reducible apply r_div); (focus (bv_omega; done)))
  | ((with_reducible apply r_mod); (focus (bv_omega; done)))
  | ((with_reducible apply r_pow); (focus (bv_omega; done)))
  | with_reducible apply r_lt
  | with_reducible apply r_le
  | with_reducible apply r_gt
  | with_reducible apply r_ge
  | with_reducible apply r_min
  | with_reducible apply r_max
  | with_reducible apply r_intB
  | ((with_reducible apply r_len); (focus (array_get_dec; done)))
  | with_reducible apply w_callW
  | with_reducible apply q_setW
  | with_reducible apply s_setW
  | with_reducible apply s_retW))

theorem OF.takeZ {K : PySem.W.Frag} {H0 B H : Hp} {L : List (Addr × List V)} {p : Addr} {ds : List Int} {m : Int} {Q : VK} {E : XK} (c : OF H0 B L H) (i : Nat) (h : L[i]? = some (p, ds.map V.int)) (ok : DrOk ds) (m0 : 0 < m)
    (k : ∀ (r : Int) (ds' : List Int) (H2 : Hp), 0 ≤ r ∧ r < m → DrOk ds' → OF H0 B (L.set i (p, ds'.map V.int)) H2 → Q (.int r) H2) : sp_law_take K ([.ref p, .int m] ++ []) H Q E :=
  ⟨c.o.nod, p, ds, m, rfl, c.o.atI i h, ok, m0, fun r ds' h0 h1 ok' => k r ds' _ ⟨h0, h1⟩ ok' (c.mut i h)⟩
section
variable {K : PySem.W.Frag} {B : Hp} {m : Nat} {b : Addr}
/-- a part of a pair -/
def Prt1 (K : PySem.W.Frag) (B : Hp) (m : Nat) (x : V) (d : PyData) : Prop := Dq K B x d ∧ Sw d 1 131 ∧ ((∃ i : Int, x = .int i ∧ d = .int i ∧ i.natAbs ≤ m) ∨ (NoPt K B x ∧ ∀ i, d ≠ .int i))
theorem prt_int {i : Int} (h : i.natAbs ≤ m) (hm : m < 10 ^ 38) : Prt1 K B m (.int i) (.int i) := ⟨.int i, (sw_int (by omega)).more (by omega) (by omega), .inl ⟨i, rfl, rfl, h⟩⟩
theorem prt_off {x : V} {d : PyData} (h : Dq K B x d) (s : Sw d 1 131) (n : NoPt K B x) (hd : ∀ i, d ≠ .int i) : Prt1 K B m x d := ⟨h, s, .inr ⟨n, hd⟩⟩
theorem Prt1.ex {B' : Hp} {x : V} {d : PyData} (h : Prt1 K B m x d) (e : Ex B B') : Prt1 K B' m x d := ⟨h.1.ex e, h.2.1, h.2.2.elim .inl fun z => .inr ⟨z.1.ex e, z.2⟩⟩
/-- a tuple of two parts -/
theorem ib_two {x y : V} {d e : PyData} (h : B b = some (.tup [x, y])) (hx : Prt1 K B m x d) (hy : Prt1 K B m y e) (hm : m < 10 ^ 38) : ∃ o d', IB K B m (.ref b) o d' := by
  have sw : Sw (.tuple [d, e]) 3 560 := (sw_tup (sw_cons hx.2.1 (sw_cons hy.2.1 sw_nil))).more (by omega) (by omega)
  have dq : Dq K B (.ref b) (.tuple [d, e]) := .tup (st_at h) (.cons hx.1 (.cons hy.1 .nil))
  have off : (NoPt K B x ∨ NoPt K B y) → (∀ q, PyData.tuple [d, e] ≠ MU.pair q) → ∃ o d', IB K B m (.ref b) o d' := fun n ne => ⟨none, _, .inr ⟨b, _, rfl, h, .inr ⟨x, y, rfl, hx.2.2.elim (fun ⟨i, z, _⟩ => .inl ⟨i, z⟩) fun z => .inr z.1, hy.2.2.elim (fun ⟨i, z, _⟩ => .inl ⟨i, z⟩) fun z => .inr z.1, n⟩⟩, dq, sw, lk_off ne, fun q hq => nomatch hq⟩
  rcases hx.2.2 with ⟨i, rfl, rfl, hi⟩ | ⟨nx, ndx⟩
  · rcases hy.2.2 with ⟨j, rfl, rfl, hj⟩ | ⟨ny, ndy⟩
    · exact ⟨_, _, ib_pair (q := (i, j)) h ⟨hi, hj⟩ hm⟩
    · exact off (.inr ny) fun q z => by
        unfold MU.pair at z
        injection z with z
        injection z with _ z
        injection z with z _
        exact ndy _ z
  · exact off (.inl nx) fun q z => by
      unfold MU.pair at z
      injection z with z
      injection z with z _
      exact ndx _ z
/-- a tuple of another length, a list: no pairs -/
theorem ib_ints {ns : List Int} (h : B b = some (.tup (ns.map V.int))) (hn : ns.length ≠ 2) (hl : ns.length ≤ 4) (hb : ∀ n ∈ ns, n.natAbs < 10 ^ 38) : ∃ o d', IB K B m (.ref b) o d' :=
  ⟨none, .tuple (ns.map .int), .inr ⟨b, _, rfl, h, .inl (by rw [List.length_map]; exact hn)⟩, .tup (st_at h) (dqa_ints ns), (sw_tup (swa_ints ns hb)).more (by omega) (by omega), lk_off (fun q z => by
    unfold MU.pair at z
    injection z with z
    have := congrArg List.length z
    rw [List.length_map] at this
    exact hn this), fun q hq => nomatch hq⟩
theorem ib_list {ns : List Int} (h : B b = some (.lst (ns.map V.int))) (hl : ns.length ≤ 4) (hb : ∀ n ∈ ns, n.natAbs < 10 ^ 38) : ∃ o d', IB K B m (.ref b) o d' :=
  ⟨none, .list (ns.map .int), .inl ⟨"list", .inl (.base (.lst h)), by decide +kernel⟩, .lst (sq_at h) (dqa_ints ns), (sw_list (swa_ints ns hb)).more (by omega) (by omega), lk_off (fun q z => by
    unfold MU.pair at z
    cases z), fun q hq => nomatch hq⟩
end
end Px
set_option Elab.async false
set_option linter.all false
set_option maxRecDepth 100000
set_option maxHeartbeats 4000000
namespace Px
open PySem L2 MA
local macro_rules | `(tactic| bv_omega) => `(tactic| first | assumption | omega | exact cm (by omega) | exact cd (by omega) | exact cp (by omega) | exact trivial)
local macro_rules | `(tactic| array_get_dec) => `(tactic| first
  | assumption
  | exact sq_up
  | exact Own.sqi (by assumption) 0 (by rfl)
  | exact Own.sqi (by assumption) 1 (by rfl)
  | exact Own.sqi (by assumption) 2 (by rfl)
  | exact Own.sqi (by assumption) 3 (by rfl)
  | exact Own.sqi (by assumption) 4 (by rfl)
  | exact Own.sq (by assumption) (by assumption)
  | exact sq_new (by assumption) (by assumption))
local macro_rules | `(tactic| clean_wf) => `(tactic| first
  | with_reducible exact ev_c
  | (with_reducible apply ev_v') <;> rfl
  | (with_reducible apply ev_add) <;> clean_wf
  | (with_reducible apply ev_sub) <;> clean_wf
  | (with_reducible apply ev_mul) <;> clean_wf
  | (with_reducible apply ev_mod) <;> clean_wf
  | (with_reducible apply ev_div) <;> clean_wf
  | (with_reducible apply ev_pow) <;> clean_wf
  | (with_reducible apply ev_neg) <;> clean_wf
  | (with_reducible apply ev_lt) <;> clean_wf
  | (with_reducible apply ev_le) <;> clean_wf
  | (with_reducible apply ev_gt) <;> clean_wf
  | (with_reducible apply ev_ge) <;> clean_wf
  | (with_reducible apply ev_eqi) <;> clean_wf
  | (with_reducible apply ev_nei) <;> clean_wf
  | (with_reducible apply ev_len) <;> clean_wf
  | (with_reducible apply ev_ixL) <;> clean_wf
  | (with_reducible apply ev_min) <;> clean_wf
  | (with_reducible apply ev_max) <;> clean_wf
  | (with_reducible apply ev_abs) <;> clean_wf
  | (with_reducible apply ev_intB) <;> clean_wf
  | (with_reducible apply ea_1) <;> clean_wf
  | (with_reducible apply ea_2) <;> clean_wf
  | (with_reducible apply ea_3) <;> clean_wf
  | with_reducible exact ea_nil
  | (with_reducible apply ea_cons) <;> clean_wf
  | with_reducible exact el_nil
  | (with_reducible apply ep_lt) <;> clean_wf
  | (with_reducible apply ep_le) <;> clean_wf
  | (with_reducible apply ep_gt) <;> clean_wf
  | (with_reducible apply ep_ge) <;> clean_wf
  | (with_reducible apply ep_eqi) <;> clean_wf
  | (with_reducible apply ep_nei) <;> clean_wf
  | (with_reducible apply ep_not) <;> clean_wf
  | ((with_reducible apply ep_and) <;> first | (intro _; clean_wf; done) | clean_wf)
  | ((with_reducible apply ep_or) <;> first | (intro _; clean_wf; done) | clean_wf)
  | (with_reducible apply et_t) <;> clean_wf
  | (with_reducible apply eo_is) <;> clean_wf
  | with_reducible exact eo_no
  | array_get_dec
  | bv_omega
  | rfl
  | skip)
local macro_rules | `(tactic| symm_saturate) => `(tactic| first
  | ((with_reducible apply q_set); (focus (clean_wf; done)))
  | ((with_reducible apply s_set); (focus (clean_wf; done)))
  | ((with_reducible apply q_aug (hx := rfl)); (focus (clean_wf; done)))
  | ((with_reducible apply s_aug (hx := rfl)); (focus (clean_wf; done)))
  | ((with_reducible apply q_augC (hx := rfl)); (focus (clean_wf; done)))
  | ((with_reducible apply s_augC (hx := rfl)); (focus (clean_wf; done))))
local macro_rules | `(tactic| subst_eqs) => `(tactic| repeat' (first
  | with_reducible apply w_c
  | ((with_reducible apply w_v'); (focus rfl))
  | with_reducible apply w_op
  | with_reducible apply w_cb
  | with_reducible apply w_cons
  | with_reducible apply w_nil
  | with_reducible apply r_add
  | with_reducible apply r_sub
  | ((with_reducible apply r_mul); (focus (bv_omega; done)))
  | ((with_reducible apply r_div); (focus (bv_omega; done)))
  | ((with_reducible apply r_mod); (focus (bv_omega; done)))
  | ((with_reducible apply r_pow); (focus (bv_omega; done)))
  | with_reducible apply r_lt
  | with_reducible apply r_le
  | with_reducible apply r_gt
  | with_reducible apply r_ge
  | with_reducible apply r_min
  | with_reducible apply r_max
  | with_reducible apply r_intB
  | ((with_reducible apply r_len); (focus (array_get_dec; done)))
  | with_reducible apply w_callW
  | with_reducible apply q_setW
  | with_reducible apply s_setW
  | with_reducible apply s_retW))

theorem atI_memG {xs : List V} {t : Int} (h0 : 0 ≤ t) (h1 : t < (xs.length : Int)) : ∃ v ∈ xs, atI xs t = some v := by
  have h : t.toNat < xs.length := by omega
  exact ⟨_, List.getElem_mem h, at_of (j := t.toNat) (by omega) (List.getElem?_eq_getElem h)⟩
theorem log_of {n : Int} (h : n.natAbs < 10 ^ 38) : n.natAbs.log2 < 1920 := by
  by_cases z : n.natAbs = 0
  · rw [z]; decide
  · exact (Nat.log2_lt z).mpr (Nat.lt_trans h (Nat.lt_of_lt_of_le (by decide : 10 ^ 38 < 2 ^ 130) (Nat.pow_le_pow_right (by omega) (by omega))))
theorem sw_text {n : Int} (h : n.natAbs < 10 ^ 38) : Sw (.str (PySem.Str.ofString (toString n))) 1 131 := (sw_str (sml_of _)).more (by omega) (by
  rw [PySem.ofString_length]
  have := int_text_length_le10 (k := 38) (by decide) h
  omega)
def sp_law_bent (K : PySem.W.Frag) : Sp := fun vs H Q _ => Nod H ∧ ∃ (a : Addr) (ds : List Int) (v : V) (m : Nat) (o : Option (Int × Int)) (d : PyData), vs = [.ref a, v] ∧ H a = some (.lst (ds.map V.int)) ∧ DrOk ds ∧ IB K (del H a) m v o d ∧ m ≤ 10 ^ 36 ∧
  ∀ (v' : V) (ds' : List Int) (B' H' : Hp), Ex (del H a) B' → OF H B' [(a, ds'.map V.int)] H' → DrOk ds' → (∃ o' d', IB K B' (m + 100) v' o' d') → Q v' H'
/-- slots: draws one side number some new found -/
abbrev n_law_bent : List Str := ["draws", "one", "side", "number", "some", "new", "found"]
def t_law_bent (K : PySem.W.Frag) : TS := (sFg (tSeq (tIfS (tOr (tNot (tB (tCB (rIsW K) (tCons (tVar 1) (tCons (tC (.ty "tuple")) tNil))))) (tOr (tTest (tOp rNe (tCB (cLen K) (tCons (tVar 1) tNil)) (tC (.int 2)))) (tOr (tNot (tB (tCall (sp_law_whole K) [] E0 (tCons (tOp (rIxT K) (tVar 1) (tC (.int 0))) tNil)))) (tNot (tB (tCall (sp_law_whole K) [] E0 (tCons (tOp (rIxT K) (tVar 1) (tC (.int 1))) tNil))))))) (tRet (tTup (tCons (tC (.int 1)) (tCons (tC (.int 0)) tNil)))) tNext)
  (tSeq (tAsg (tCall (sp_law_take K) [] E0 (tCons (tVar 0) (tCons (tC (.int 2)) tNil))) (gName 2))
  (tSeq (tAsg (tOp (rIxT K) (tVar 1) (tVar 2)) (gName 3))
  (tSeq (tAsg (tLst (tCons (tOp oAdd (tVar 3) (tC (.int 1))) (tCons (tOp oSub (tVar 3) (tC (.int 1))) (tCons (tOp oAdd (tVar 3) (tC (.int 2))) (tCons (tC (.int 0)) (tCons (tUn uNeg (tC (.int 1))) (tCons (tCall (sp_law_take K) [] E0 (tCons (tVar 0) (tCons (tC (.int 99)) tNil))) (tCons (tOp rEq (tVar 3) (tC (.int 1))) (tCons (tCB cStr (tCons (tVar 3) tNil)) (tCons (tC .non) (tCons (tLst (tCons (tVar 3) tNil)) tNil))))))))))) (gName 4))
  (tSeq (tAsg (tOp (rIxL K) (tVar 4) (tCall (sp_law_take K) [] E0 (tCons (tVar 0) (tCons (tC (.int 10)) tNil)))) (gName 5))
  (tSeq (tAsg (tOp (rIxL K) (tLst (tCons (tTup (tCons (tVar 5) (tCons (tOp (rIxT K) (tVar 1) (tC (.int 1))) tNil))) (tCons (tTup (tCons (tOp (rIxT K) (tVar 1) (tC (.int 0))) (tCons (tVar 5) tNil))) tNil))) (tVar 2)) (gName 6))
  (tRet (tOp (rIxL K) (tLst (tCons (tVar 6) (tCons (tVar 6) (tCons (tVar 6) (tCons (tVar 6) (tCons (tCB (cList K) (tCons (tVar 1) tNil)) (tCons (tOp (rCatT K) (tVar 1) (tTup (tCons (tC (.int 0)) tNil))) (tCons (tSl (rSlT K) (tVar 1) tNoPart (tPart (tC (.int 1)))) (tCons (tRevT K (tVar 1)) tNil))))))))) (tCall (sp_law_take K) [] E0 (tCons (tVar 0) (tCons (tC (.int 8)) tNil))))))))))))
theorem r_law_bent {K : PySem.W.Frag} {vs : List V} {H : Hp} {Q : VK} {E : XK} (h : sp_law_bent K vs H Q E) : t_law_bent K { nx := fun _ H' => Q .non H', rt := Q } (start n_law_bent vs) H := by
  obtain ⟨nd, a, ds, v, m, o, d, rfl, ha, ok, ib, hm, k⟩ := h
  have c : OF H (del H a) [(a, ds.map V.int)] H := ⟨Own.enter ha, fun b u h0 h1 => by rw [h0] at h1; cases h1⟩
  have fin : ∀ {v' : V} {ds' : List Int} {B' H' : Hp}, Ex (del H a) B' → OF H B' [(a, ds'.map V.int)] H' → DrOk ds' → (∃ o' d', IB K B' (m + 100) v' o' d') → ∃ H'', Fg H H' H'' ∧ Q v' H'' := fun e c ok ib => ⟨_, fg_full c.o.nod ha (c.o.atI 0 rfl) (ex_trans e c.o.ex) c.f, k _ _ _ _ e c ok ib⟩
  have itH : Itm K H v o := ib.it.ex c.o.ex
  have hm2 : m + 100 < 10 ^ 38 := by omega
  cases o with
  | none =>
    refine fg_body (q_when (b := true) ?_ (fun _ => s_retW (w_tupW (ea_2 ev_c ev_c _ ⟨by show 2 ≤ sizeLine; decide, fun t ht => fin (ex_new (c.noB ht)) (c.base ht trivial) ok ⟨_, _, ib_pair (q := (1, 0)) upd_same (by simp) hm2⟩⟩))) fun z => nomatch z)
    rcases itH with ⟨t', ty, kk⟩ | ⟨b, ps, rfl, hb, h2 | ⟨x1, y1, rfl, hx1, hy1, hbad⟩⟩
    · exact et_eq (et_or (a := true) (b := true) (et_eq (et_not (et_b (ev_isW (ev_v 1) ev_c (.ty "tuple") ty (kit_ty (r := false) kk)))) rfl) fun z => nomatch z) rfl
    · exact et_eq (et_or (a := false) (b := true) (et_eq (et_not (et_b (ev_isW (ev_v 1) ev_c (.ty "tuple") (.inl (.base (.tup hb))) (kit_ty (r := true) (by decide +kernel))))) rfl) fun _ => et_eq (et_or (a := true) (b := true) (et_eq (et_t (ev_nei (j := 2) (ev_lenT (ev_v 1) (st_at hb)) ev_c)) (by rw [decide_eq_false (by omega)]; rfl)) fun z => nomatch z) rfl) rfl
    · have w0 : ∀ r, ((∃ i : Int, x1 = .int i ∧ r = true) ∨ ((NoIn K H x1 ∨ ∃ c, x1 = .bl c) ∧ r = false)) → EvT (tNot (tB (tCall (sp_law_whole K) [] E0 (tCons (tOp (rIxT K) (tVar 1) (tC (.int 0))) tNil)))) (start n_law_bent [.ref a, .ref b]) H (!r) := fun r hr => et_not (et_b (ev_call (v := .bl r) (ea_1 (ev_ixT (i := 0) (v := x1) (ev_v 1) ev_c (st_at hb) rfl)) fun Q q => ⟨nd, x1, r, rfl, hr, q⟩))
      have w1 : ∀ r, ((∃ i : Int, y1 = .int i ∧ r = true) ∨ ((NoIn K H y1 ∨ ∃ c, y1 = .bl c) ∧ r = false)) → EvT (tNot (tB (tCall (sp_law_whole K) [] E0 (tCons (tOp (rIxT K) (tVar 1) (tC (.int 1))) tNil)))) (start n_law_bent [.ref a, .ref b]) H (!r) := fun r hr => et_not (et_b (ev_call (v := .bl r) (ea_1 (ev_ixT (i := 1) (v := y1) (ev_v 1) ev_c (st_at hb) rfl)) fun Q q => ⟨nd, y1, r, rfl, hr, q⟩))
      refine et_eq (et_or (a := false) (b := true) (et_eq (et_not (et_b (ev_isW (ev_v 1) ev_c (.ty "tuple") (.inl (.base (.tup hb))) (kit_ty (r := true) (by decide +kernel))))) rfl) fun _ => et_eq (et_or (a := false) (b := true) (et_eq (et_t (ev_nei (j := 2) (ev_lenT (ev_v 1) (st_at hb)) ev_c)) (by simp)) fun _ => ?_) rfl) rfl
      by_cases nx : NoPt K H x1
      · exact et_eq (et_or (a := true) (b := true) (w0 false (.inr ⟨nx, rfl⟩)) fun z => nomatch z) rfl
      · obtain ⟨i, rfl⟩ : ∃ i : Int, x1 = .int i := hx1.elim id fun z => absurd z nx
        have ny : NoPt K H y1 := hbad.elim (fun z => absurd z nx) id
        exact et_eq (et_or (a := false) (b := true) (w0 true (.inl ⟨i, rfl, rfl⟩)) fun _ => w1 false (.inr ⟨ny, rfl⟩)) rfl
  | some q =>
    obtain ⟨b, rfl, hbB⟩ := ib.it
    have hb := c.o.ex _ _ hbB
    obtain ⟨hq1, hq2⟩ := ib.le q rfl
    refine fg_body (q_when (b := false) (et_eq (et_or (a := false) (b := false) (et_eq (et_not (et_b (ev_isW (ev_v 1) ev_c (.ty "tuple") (.inl (.base (.tup hb))) (kit_ty (r := true) (by decide +kernel))))) rfl) fun _ => et_eq (et_or (a := false) (b := false) (et_eq (et_t (ev_nei (j := 2) (ev_lenT (ev_v 1) (st_at hb)) ev_c)) (by simp)) fun _ =>
      et_eq (et_or (a := false) (b := false) (et_eq (et_not (et_b (ev_call (v := .bl true) (ea_1 (ev_ixT (i := 0) (v := .int q.1) (ev_v 1) ev_c (st_at hb) rfl)) fun Q q' => ⟨nd, .int q.1, true, rfl, .inl ⟨_, rfl, rfl⟩, q'⟩))) rfl) fun _ => et_eq (et_not (et_b (ev_call (v := .bl true) (ea_1 (ev_ixT (i := 1) (v := .int q.2) (ev_v 1) ev_c (st_at hb) rfl)) fun Q q' => ⟨nd, .int q.2, true, rfl, .inl ⟨_, rfl, rfl⟩, q'⟩))) rfl) rfl) rfl) rfl) (fun z => nomatch z) fun _ => ?_)
    refine q_setW (w_callW (w_cons (w_v 0 (w_one (w_c ?_)))))
    refine c.takeZ 0 rfl ok (by omega) fun side ds H1 hs ok c => ?_
    replace c : OF H (del H a) [(a, ds.map V.int)] H1 := c
    have hb1 := c.o.ex _ _ hbB
    obtain ⟨n, hat, hn⟩ : ∃ n : Int, atI (pvals q) side = some (.int n) ∧ n.natAbs ≤ m := by
      rcases (by omega : side = 0 ∨ side = 1) with rfl | rfl
      · exact ⟨q.1, rfl, hq1⟩
      · exact ⟨q.2, rfl, hq2⟩
    refine q_set (v := .int n) (ev_ixT (ev_v 1) (ev_v 2) (st_at hb1) hat) ?_
    have hn38 : n.natAbs < 10 ^ 38 := by omega
    -- some
    refine q_setW (w_lst (w_cons (w_ev (ev_add (i := n) (ev_v 3) ev_c) (w_cons (w_ev (ev_sub (i := n) (ev_v 3) ev_c) (w_cons (w_ev (ev_add (i := n) (ev_v 3) ev_c) (w_cons (w_c (w_cons (w_ev (ev_neg ev_c) (w_cons (w_callW (w_cons (w_v 0 (w_one (w_c ?_)))))))))))))))))
    refine c.takeZ 0 rfl ok (by omega) fun t99 ds H2 ht ok c => ?_
    replace c : OF H (del H a) [(a, ds.map V.int)] H2 := c
    refine w_cons (w_ev (ev_eqi (i := n) (j := 1) (ev_v 3) ev_c) (w_cons (w_cb (w_one (w_v 3 ⟨n, rfl, log_of hn38, w_cons (w_c (w_one (w_evL (el_lst (ea_1 (ev_v 3)) (by simp)) fun p1 hp1 => ⟨by show 10 ≤ sizeLine; decide, fun ps hps => ?_⟩)))⟩)))))
    have x1 := ex_new (o := .lst [.int n]) (c.noB hp1)
    replace c := c.base (u := .lst [.int n]) hp1 trivial
    have hs1 : (upd (del H a) p1 (.lst [.int n])) p1 = some (.lst [.int n]) := upd_same
    obtain ⟨xs, hxs⟩ : ∃ xs : List V, xs = [.int (n + 1), .int (n - 1), .int (n + 2), .int 0, .int (-1), .int t99, .bl (decide (n = 1)), .str (PySem.Str.ofString (toString n)), .non, .ref p1] := ⟨_, rfl⟩
    generalize upd (del H a) p1 _ = B1 at c x1 hs1
    have all : ∀ x ∈ xs, ∃ dn, Prt1 K B1 (m + 100) x dn := by
      rw [hxs]
      intro x hx
      simp only [List.mem_cons, List.not_mem_nil, or_false] at hx
      rcases hx with rfl | rfl | rfl | rfl | rfl | rfl | rfl | rfl | rfl | rfl
      · exact ⟨_, prt_int (by omega) hm2⟩
      · exact ⟨_, prt_int (by omega) hm2⟩
      · exact ⟨_, prt_int (by omega) hm2⟩
      · exact ⟨_, prt_int (by omega) hm2⟩
      · exact ⟨_, prt_int (by omega) hm2⟩
      · exact ⟨_, prt_int (by omega) hm2⟩
      · exact ⟨_, prt_off (.bl _) (sw_bl.more (by omega) (by omega)) (.inr ⟨_, rfl⟩) (fun i z => by cases z)⟩
      · exact ⟨_, prt_off (.str _) (sw_text hn38) (.inl ⟨"str", .inl (.base (.str _)), by decide +kernel⟩) (fun i z => by cases z)⟩
      · exact ⟨_, prt_off .non (sw_non.more (by omega) (by omega)) (.inl ⟨"NoneType", .inl (.base .non), by decide +kernel⟩) (fun i z => by cases z)⟩
      · exact ⟨.list [.int n], prt_off (.lst (sq_at hs1) (.cons (.int _) .nil)) ((sw_list (sw_cons (sw_int hn38) sw_nil)).more (by omega) (by omega)) (.inl ⟨"list", .inl (.base (.lst hs1)), by decide +kernel⟩) (fun i z => by cases z)⟩
    have hl10 : (xs.length : Int) = 10 := by rw [hxs]; rfl
    rw [← hxs]
    have x2 := ex_new (o := .lst xs) (c.noB hps)
    replace c := c.base (u := .lst xs) hps trivial
    have hs2 : (upd B1 ps (.lst xs)) ps = some (.lst xs) := upd_same
    generalize upd B1 ps _ = B2 at c x2 hs2
    have x02 := ex_trans x1 x2
    -- new
    refine q_setW (w_op (w_v 4 (w_callW (w_cons (w_v 0 (w_one (w_c ?_)))))))
    refine c.takeZ 0 rfl ok (by omega) fun t10 ds H3 ht10 ok c => ?_
    replace c : OF H B2 [(a, ds.map V.int)] H3 := c
    obtain ⟨x, hx, hatx⟩ := atI_memG ht10.1 (by omega : t10 < (xs.length : Int))
    obtain ⟨dn, px⟩ := all x hx
    refine r_ix (sq_at (c.b hs2)) hatx ?_
    have hb3 := c.o.ex _ _ (x02 _ _ hbB)
    have p2 := px.ex x2
    have pq1 : Prt1 K B2 (m + 100) (.int q.1) (.int q.1) := prt_int (by omega) hm2
    have pq2 : Prt1 K B2 (m + 100) (.int q.2) (.int q.2) := prt_int (by omega) hm2
    -- found
    refine q_setW (w_op (w_lst (w_cons (w_tupW (ea_2 (ev_v 5) (ev_ixT (i := 1) (v := .int q.2) (ev_v 1) ev_c (st_at hb3) rfl) _ ⟨by show 2 ≤ sizeLine; decide, fun t1 ht1 => ?_⟩)))))
    have x3 := ex_new (o := .tup [x, .int q.2]) (c.noB ht1)
    replace c := c.base (u := .tup [x, .int q.2]) ht1 trivial
    obtain ⟨o1, d1, ib1⟩ : ∃ o' d', IB K (upd B2 t1 (.tup [x, .int q.2])) (m + 100) (.ref t1) o' d' := ib_two upd_same (p2.ex x3) (pq2.ex x3) hm2
    generalize upd B2 t1 _ = B3 at c x3 ib1
    have x03 := ex_trans x02 x3
    have hb4 := c.o.ex _ _ (x03 _ _ hbB)
    refine w_one (w_tupW (ea_2 (ev_ixT (i := 0) (v := .int q.1) (ev_v 1) ev_c (st_at hb4) rfl) (ev_v 5) _ ⟨by show 2 ≤ sizeLine; decide, fun t2 ht2 => ⟨by show 2 ≤ sizeLine; decide, fun pl hpl => ?_⟩⟩))
    have x4 := ex_new (o := .tup [.int q.1, x]) (c.noB ht2)
    replace c := c.base (u := .tup [.int q.1, x]) ht2 trivial
    obtain ⟨o2, d2, ib2⟩ : ∃ o' d', IB K (upd B3 t2 (.tup [.int q.1, x])) (m + 100) (.ref t2) o' d' := ib_two upd_same ((pq1.ex x3).ex x4) ((p2.ex x3).ex x4) hm2
    generalize upd B3 t2 _ = B4 at c x4 ib2
    have x04 := ex_trans x03 x4
    have x5 := ex_new (o := .lst [.ref t1, .ref t2]) (c.noB hpl)
    replace c := c.base (u := .lst [.ref t1, .ref t2]) hpl trivial
    have hs5 : (upd B4 pl (.lst [.ref t1, .ref t2])) pl = some (.lst [.ref t1, .ref t2]) := upd_same
    generalize upd B4 pl _ = B5 at c x5 hs5
    have x05 := ex_trans x04 x5
    obtain ⟨f, hatf, ibf⟩ : ∃ f : V, atI [V.ref t1, .ref t2] side = some f ∧ ∃ o' d', IB K B5 (m + 100) f o' d' := by
      rcases (by omega : side = 0 ∨ side = 1) with rfl | rfl
      · exact ⟨_, rfl, _, _, (ib1.ex x4).ex x5⟩
      · exact ⟨_, rfl, _, _, ib2.ex x5⟩
    refine w_v 2 (r_ix (sq_at (c.b hs5)) hatf ?_)
    have hb5 := c.o.ex _ _ (x05 _ _ hbB)
    have hqq : ∀ n ∈ [q.1, q.2], n.natAbs < 10 ^ 38 := fun n hn => by
      simp only [List.mem_cons, List.not_mem_nil, or_false] at hn
      rcases hn with rfl | rfl <;> omega
    -- one of eight
    refine s_retW (w_op (w_lst (w_cons (w_v 6 (w_cons (w_v 6 (w_cons (w_v 6 (w_cons (w_v 6 (w_cons (w_cb (w_one (w_v 1 ⟨b, pvals q, rfl, .inr (st_at hb5), fun pL hpL => ?_⟩))))))))))))))
    have x6 := ex_new (o := .lst (pvals q)) (c.noB hpL)
    replace c := c.base (u := .lst (pvals q)) hpL trivial
    obtain ⟨o6, d6, ib6⟩ : ∃ o' d', IB K (upd B5 pL (.lst (pvals q))) (m + 100) (.ref pL) o' d' := ib_list (ns := [q.1, q.2]) upd_same (by simp) hqq
    generalize upd B5 pL _ = B6 at c x6 ib6
    have x06 := ex_trans x05 x6
    have hb6 := c.o.ex _ _ (x06 _ _ hbB)
    refine w_cons (w_op (w_v 1 (w_tupW (ea_1 ev_c _ ⟨by show 1 ≤ sizeLine; decide, fun tz htz => ?_⟩))))
    have x7 := ex_new (o := .tup [.int 0]) (c.noB htz)
    replace c := c.base (u := .tup [.int 0]) htz trivial
    have hz : (upd B6 tz (.tup [.int 0])) tz = some (.tup [.int 0]) := upd_same
    generalize upd B6 tz _ = B7 at c x7 hz
    have x07 := ex_trans x06 x7
    refine ⟨b, tz, pvals q, [.int 0], rfl, rfl, st_at (c.o.ex _ _ (x07 _ _ hbB)), st_at (c.b hz), by simp, by show 3 ≤ sizeLine; decide, (fun z => nomatch z), fun _ tc htc => ?_⟩
    have x8 := ex_new (o := .tup ([q.1, q.2, 0].map V.int)) (c.noB htc)
    replace c := c.base (u := .tup ([q.1, q.2, 0].map V.int)) htc trivial
    obtain ⟨o8, d8, ib8⟩ : ∃ o' d', IB K (upd B7 tc (.tup ([q.1, q.2, 0].map V.int))) (m + 100) (.ref tc) o' d' := ib_ints upd_same (by simp) (by simp) fun n hn => by
      simp only [List.mem_cons, List.not_mem_nil, or_false] at hn
      rcases hn with rfl | rfl | rfl
      · omega
      · omega
      · decide
    generalize upd B7 tc _ = B8 at c x8 ib8
    have x08 := ex_trans x07 x8
    refine w_cons (w_v 1 (eo_no _ (eo_is ev_c _ ⟨b, pvals q, rfl, st_at (c.o.ex _ _ (x08 _ _ hbB)), (by show ¬ (HT.sIx 2 0 none = 0 ∧ HT.sIx 2 2 (some 1) = 2); decide), fun ts hts => ?_⟩)))
    have x9 := ex_new (o := .tup ([q.1].map V.int)) (c.noB hts)
    replace c := c.base (u := .tup ([q.1].map V.int)) hts trivial
    obtain ⟨o9, d9, ib9⟩ : ∃ o' d', IB K (upd B8 ts (.tup ([q.1].map V.int))) (m + 100) (.ref ts) o' d' := ib_ints upd_same (by simp) (by simp) fun n hn => by
      rw [List.mem_singleton.mp hn]; omega
    generalize upd B8 ts _ = B9 at c x9 ib9
    have x09 := ex_trans x08 x9
    refine w_one (w_revT (ev_v 1) (st_at (c.o.ex _ _ (x09 _ _ hbB))) fun tr htr => ⟨by show 8 ≤ sizeLine; decide, fun pz hpz => ?_⟩)
    have x10 := ex_new (o := .tup (pvals (q.2, q.1))) (c.noB htr)
    replace c := c.base (u := .tup (pvals (q.2, q.1))) htr trivial
    obtain ⟨o10, d10, ib10⟩ : ∃ o' d', IB K (upd B9 tr (.tup (pvals (q.2, q.1)))) (m + 100) (.ref tr) o' d' := ⟨_, _, ib_pair (q := (q.2, q.1)) upd_same ⟨by show q.2.natAbs ≤ _; omega, by show q.1.natAbs ≤ _; omega⟩ hm2⟩
    generalize upd B9 tr _ = B10 at c x10 ib10
    have x010 := ex_trans x09 x10
    obtain ⟨ys, hys⟩ : ∃ ys : List V, ys = [f, f, f, f, .ref pL, .ref tc, .ref ts, .ref tr] := ⟨_, rfl⟩
    have yall : ∀ y ∈ ys, ∃ o' d', IB K B10 (m + 100) y o' d' := by
      rw [hys]
      intro y hy
      have ff : ∃ o' d', IB K B10 (m + 100) f o' d' := by
        obtain ⟨o', d', h⟩ := ibf
        exact ⟨o', d', h.ex (ex_trans x6 (ex_trans x7 (ex_trans x8 (ex_trans x9 x10))))⟩
      simp only [List.mem_cons, List.not_mem_nil, or_false] at hy
      rcases hy with rfl | rfl | rfl | rfl | rfl | rfl | rfl | rfl
      · exact ff
      · exact ff
      · exact ff
      · exact ff
      · exact ⟨_, _, ib6.ex (ex_trans x7 (ex_trans x8 (ex_trans x9 x10)))⟩
      · exact ⟨_, _, ib8.ex (ex_trans x9 x10)⟩
      · exact ⟨_, _, ib9.ex x10⟩
      · exact ⟨_, _, ib10⟩
    have hl8 : (ys.length : Int) = 8 := by rw [hys]; rfl
    rw [← hys]
    have x11 := ex_new (o := .lst ys) (c.noB hpz)
    replace c := c.base (u := .lst ys) hpz trivial
    have hs11 : (upd B10 pz (.lst ys)) pz = some (.lst ys) := upd_same
    generalize upd B10 pz _ = B11 at c x11 hs11
    refine w_callW (w_cons (w_v 0 (w_one (w_c ?_))))
    refine c.takeZ 0 rfl ok (by omega) fun t8 ds H4 ht8 ok c => ?_
    replace c : OF H B11 [(a, ds.map V.int)] H4 := c
    obtain ⟨y, hy, haty⟩ := atI_memG ht8.1 (by omega : t8 < (ys.length : Int))
    obtain ⟨o', d', iby⟩ := yall y hy
    exact r_ix (sq_at (c.b hs11)) haty (fin (ex_trans x010 x11) c ok ⟨_, _, iby.ex x11⟩)
end Px
set_option Elab.async false
set_option linter.all false
set_option maxRecDepth 100000
set_option maxHeartbeats 4000000
namespace Px
open PySem PySem.Spec PyProof.Rows L2
/-! ### xs == ys, by data or by length -/
def rEqX (K : PySem.W.Frag) : R2 := fun x y H Q => rEqD K x y H Q ∨
  (∃ a b xs ys, x = .ref a ∧ y = .ref b ∧ SqL K H a xs ∧ SqL K H b ys ∧ xs.length ≠ ys.length ∧ Q (.bl false) H)
theorem op_eqX {X : Cx} (hu : X.A.units + 64 < cLine) : OpR X (compareOp .Eq) (rEqX X.K) := by
  intro pins s σ H x y v u Q I rx ry h
  rcases h with h | ⟨a, b, xs, ys, rfl, rfl, ha, hb, hl, q⟩
  · exact op_eqD hu pins s σ H x y v u Q I rx ry h
  · cases (show v = Value.ref a from rx)
    cases (show u = Value.ref b from ry)
    obtain ⟨us, r1, p1, _⟩ := I.list ha
    obtain ⟨ws, r2, p2, _⟩ := I.list hb
    refine SeqAt.RcAt.lists_lengths p1.isList p2.isList ?_ (by omega) _ _ _ _ ⟨.bl false, H, I, rfl, q⟩
    rw [List.size_toArray, List.size_toArray, ← r1.length, ← r2.length]
    simpa using hl
/-- whether a list is empty -/
theorem rx_nil {K : PySem.W.Frag} {H : Hp} {Q : VK} {a b : Addr} {xs : List V} (ha : SqL K H a xs) (hb : SqL K H b []) (q : Q (.bl (decide (xs = []))) H) : rEqX K (.ref a) (.ref b) H Q := by
  cases xs with
  | nil => exact .inl ⟨.list [], .list [], .lst ha .nil, .lst hb .nil, by decide, by decide, by simpa [PyData.eqv, PyData.eqvAll] using q⟩
  | cons x r => exact .inr ⟨a, b, _, _, rfl, rfl, ha, hb, by simp, by simpa using q⟩
end Px
set_option Elab.async false
set_option linter.all false
set_option maxRecDepth 100000
set_option maxHeartbeats 4000000
namespace Px
open PySem L2 MA
local macro_rules | `(tactic| bv_omega) => `(tactic| first | assumption | omega | exact cm (by omega) | exact cd (by omega) | exact cp (by omega) | exact trivial)
local macro_rules | `(tactic| array_get_dec) => `(tactic| first
  | assumption
  | exact sq_up
  | exact Own.sqi (by assumption) 0 (by rfl)
  | exact Own.sqi (by assumption) 1 (by rfl)
  | exact Own.sqi (by assumption) 2 (by rfl)
  | exact Own.sqi (by assumption) 3 (by rfl)
  | exact Own.sqi (by assumption) 4 (by rfl)
  | exact Own.sq (by assumption) (by assumption)
  | exact sq_new (by assumption) (by assumption))
local macro_rules | `(tactic| clean_wf) => `(tactic| first
  | with_reducible exact ev_c
  | (with_reducible apply ev_v') <;> rfl
  | (with_reducible apply ev_add) <;> clean_wf
  | (with_reducible apply ev_sub) <;> clean_wf
  | (with_reducible apply ev_mul) <;> clean_wf
  | (with_reducible apply ev_mod) <;> clean_wf
  | (with_reducible apply ev_div) <;> clean_wf
  | (with_reducible apply ev_pow) <;> clean_wf
  | (with_reducible apply ev_neg) <;> clean_wf
  | (with_reducible apply ev_lt) <;> clean_wf
  | (with_reducible apply ev_le) <;> clean_wf
  | (with_reducible apply ev_gt) <;> clean_wf
  | (with_reducible apply ev_ge) <;> clean_wf
  | (with_reducible apply ev_eqi) <;> clean_wf
  | (with_reducible apply ev_nei) <;> clean_wf
  | (with_reducible apply ev_len) <;> clean_wf
  | (with_reducible apply ev_ixL) <;> clean_wf
  | (with_reducible apply ev_min) <;> clean_wf
  | (with_reducible apply ev_max) <;> clean_wf
  | (with_reducible apply ev_abs) <;> clean_wf
  | (with_reducible apply ev_intB) <;> clean_wf
  | (with_reducible apply ea_1) <;> clean_wf
  | (with_reducible apply ea_2) <;> clean_wf
  | (with_reducible apply ea_3) <;> clean_wf
  | with_reducible exact ea_nil
  | (with_reducible apply ea_cons) <;> clean_wf
  | with_reducible exact el_nil
  | (with_reducible apply ep_lt) <;> clean_wf
  | (with_reducible apply ep_le) <;> clean_wf
  | (with_reducible apply ep_gt) <;> clean_wf
  | (with_reducible apply ep_ge) <;> clean_wf
  | (with_reducible apply ep_eqi) <;> clean_wf
  | (with_reducible apply ep_nei) <;> clean_wf
  | (with_reducible apply ep_not) <;> clean_wf
  | ((with_reducible apply ep_and) <;> first | (intro _; clean_wf; done) | clean_wf)
  | ((with_reducible apply ep_or) <;> first | (intro _; clean_wf; done) | clean_wf)
  | (with_reducible apply et_t) <;> clean_wf
  | (with_reducible apply eo_is) <;> clean_wf
  | with_reducible exact eo_no
  | array_get_dec
  | bv_omega
  | rfl
  | skip)
local macro_rules | `(tactic| symm_saturate) => `(tactic| first
  | ((with_reducible apply q_set); (focus (clean_wf; done)))
  | ((with_reducible apply s_set); (focus (clean_wf; done)))
  | ((with_reducible apply q_aug (hx := rfl)); (focus (clean_wf; done)))
  | ((with_reducible apply s_aug (hx := rfl)); (focus (clean_wf; done)))
  | ((with_reducible apply q_augC (hx := rfl)); (focus (clean_wf; done)))
  | ((with_reducible apply s_augC (hx := rfl)); (focus (clean_wf; done))))
local macro_rules | `(tactic| subst_eqs) => `(tactic| repeat' (first
  | with_reducible apply w_c
  | ((with_reducible apply w_v'); (focus rfl))
  | with_reducible apply w_op
  | with_reducible apply w_cb
  | with_reducible apply w_cons
  | with_reducible apply w_nil
  | with_reducible apply r_add
  | with_reducible apply r_sub
  | ((with_reducible apply r_mul); (focus (bv_omega; done)))
  | ((with_reducible apply r_div); (focus (bv_omega; done)))
  | ((with_reducible apply r_mod); (focus (bv_omega; done)))
  | ((with_reducible apply r_pow); (focus (bv_omega; done)))
  | with_reducible apply r_lt
  | with_reducible apply r_le
  | with_reducible apply r_gt
  | with_reducible apply r_ge
  | with_reducible apply r_min
  | with_reducible apply r_max
  | with_reducible apply r_intB
  | ((with_reducible apply r_len); (focus (array_get_dec; done)))
  | with_reducible apply w_callW
  | with_reducible apply q_setW
  | with_reducible apply s_setW
  | with_reducible apply s_retW))

/-! ### parts of a list, and how long they are -/
theorem sIx_natG (n d k : Nat) : HT.sIx n d (some (k : Int)) = min k n := by
  show (if (k : Int) < 0 then ((k : Int) + (n : Int)).toNat else min (k : Int).toNat n) = min k n
  rw [if_neg (by omega), Int.toNat_natCast]
theorem cut_toG (xs : List V) (k : Nat) : cutV xs none (some (k : Int)) = xs.take k := by
  unfold cutV
  rw [sIx_natG, HT.sIx_none, List.drop_zero, Nat.sub_zero]
  rw [List.take_eq_take_iff]; omega
theorem cut_fromG (xs : List V) (k : Nat) : cutV xs (some (k : Int)) none = xs.drop k := by
  unfold cutV
  rw [sIx_natG, HT.sIx_none, List.take_of_length_le (by rw [List.length_drop]; omega)]
  by_cases h : k ≤ xs.length
  · rw [Nat.min_eq_left h]
  · rw [List.drop_eq_nil_of_le (by omega), List.drop_eq_nil_of_le (by omega)]
theorem cut_midG (xs : List V) (i j : Nat) : (cutV xs (some (i : Int)) (some (j : Int))).length ≤ j - i := by
  unfold cutV
  rw [sIx_natG, sIx_natG, List.length_take, List.length_drop]
  omega
theorem cut_memG {xs : List V} {lo hi : Option Int} : ∀ v ∈ cutV xs lo hi, v ∈ xs := fun v hv => by
  unfold cutV at hv
  exact List.mem_of_mem_drop (List.mem_of_mem_take hv)
section
variable {K : PySem.W.Frag} {σ : L2.St} {H H0 B : Hp} {L : List (Addr × List V)} {te : TE} {Q : VK}
theorem w_slZ {xs : List V} {r : Addr} {tl th : TO} {lo hi : Option Int} (c : OF H0 B L H) (hr : B r = some (.lst xs)) (e1 : Ev te σ H (.ref r)) (h1 : EvO tl σ H lo) (h2 : EvO th σ H hi) (q : ∀ p H2, OF H0 B ((p, cutV xs lo hi) :: L) H2 → Q (.ref p) H2) : tSl (rSlL K) te tl th σ H Q :=
  w_evL (el_sl e1 h1 h2 (sq_at (c.b hr))) fun p hp => q p _ (c.new hp)
theorem w_catZ {xs ys : List V} {p q : Addr} (c : OF H0 B L H) (i j : Nat) (hi : L[i]? = some (p, xs)) (hj : L[j]? = some (q, ys)) (hl : xs.length + ys.length < 16000000) (k : ∀ p3 H3, OF H0 B ((p3, xs ++ ys) :: L) H3 → Q (.ref p3) H3) : rCat (.ref p) (.ref q) H Q :=
  ⟨p, q, xs, ys, rfl, rfl, c.o.atI i hi, c.o.atI j hj, Nat.le_of_lt (szl hl), fun p3 hp3 => k p3 _ (c.new hp3)⟩
theorem w_lsZ {xs : List V} {t : TA} (c : OF H0 B L H) (h : EvA t σ H xs) (hl : xs.length ≤ 1000) (k : ∀ p H3, OF H0 B ((p, xs) :: L) H3 → Q (.ref p) H3) : tLst t σ H Q := w_evL (el_lst h hl) fun p hp => k p _ (c.new hp)
end
theorem ibs_sub {K : PySem.W.Frag} {B : Hp} {m : Nat} {xs ys : List V} (h : IBs K B m xs) (s : ∀ y ∈ ys, y ∈ xs) : IBs K B m ys := fun y hy => h y (s y hy)
theorem ibs_app {K : PySem.W.Frag} {B : Hp} {m : Nat} {xs ys : List V} (h : IBs K B m xs) (g : IBs K B m ys) : IBs K B m (xs ++ ys) := fun y hy => (List.mem_append.mp hy).elim (h y) (g y)
theorem IBs.ex {K : PySem.W.Frag} {B B' : Hp} {m : Nat} {xs : List V} (h : IBs K B m xs) (e : Ex B B') : IBs K B' m xs := fun y hy => by
  obtain ⟨o, d, ib⟩ := h y hy
  exact ⟨o, d, ib.ex e⟩
theorem IBs.more {K : PySem.W.Frag} {B : Hp} {m m' : Nat} {xs : List V} (h : IBs K B m xs) (l : m ≤ m') : IBs K B m' xs := fun y hy => by
  obtain ⟨o, d, ib⟩ := h y hy
  exact ⟨o, d, ib.more l⟩
end Px
set_option Elab.async false
set_option linter.all false
set_option maxRecDepth 100000
set_option maxHeartbeats 4000000
namespace Px
open PySem L2 MA
local macro_rules | `(tactic| bv_omega) => `(tactic| first | assumption | omega | exact cm (by omega) | exact cd (by omega) | exact cp (by omega) | exact trivial)
local macro_rules | `(tactic| array_get_dec) => `(tactic| first
  | assumption
  | exact sq_up
  | exact Own.sqi (by assumption) 0 (by rfl)
  | exact Own.sqi (by assumption) 1 (by rfl)
  | exact Own.sqi (by assumption) 2 (by rfl)
  | exact Own.sqi (by assumption) 3 (by rfl)
  | exact Own.sqi (by assumption) 4 (by rfl)
  | exact Own.sq (by assumption) (by assumption)
  | exact sq_new (by assumption) (by assumption))
local macro_rules | `(tactic| clean_wf) => `(tactic| first
  | with_reducible exact ev_c
  | (with_reducible apply ev_v') <;> rfl
  | (with_reducible apply ev_add) <;> clean_wf
  | (with_reducible apply ev_sub) <;> clean_wf
  | (with_reducible apply ev_mul) <;> clean_wf
  | (with_reducible apply ev_mod) <;> clean_wf
  | (with_reducible apply ev_div) <;> clean_wf
  | (with_reducible apply ev_pow) <;> clean_wf
  | (with_reducible apply ev_neg) <;> clean_wf
  | (with_reducible apply ev_lt) <;> clean_wf
  | (with_reducible apply ev_le) <;> clean_wf
  | (with_reducible apply ev_gt) <;> clean_wf
  | (with_reducible apply ev_ge) <;> clean_wf
  | (with_reducible apply ev_eqi) <;> clean_wf
  | (with_reducible apply ev_nei) <;> clean_wf
  | (with_reducible apply ev_len) <;> clean_wf
  | (with_reducible apply ev_ixL) <;> clean_wf
  | (with_reducible apply ev_min) <;> clean_wf
  | (with_reducible apply ev_max) <;> clean_wf
  | (with_reducible apply ev_abs) <;> clean_wf
  | (with_reducible apply ev_intB) <;> clean_wf
  | (with_reducible apply ea_1) <;> clean_wf
  | (with_reducible apply ea_2) <;> clean_wf
  | (with_reducible apply ea_3) <;> clean_wf
  | with_reducible exact ea_nil
  | (with_reducible apply ea_cons) <;> clean_wf
  | with_reducible exact el_nil
  | (with_reducible apply ep_lt) <;> clean_wf
  | (with_reducible apply ep_le) <;> clean_wf
  | (with_reducible apply ep_gt) <;> clean_wf
  | (with_reducible apply ep_ge) <;> clean_wf
  | (with_reducible apply ep_eqi) <;> clean_wf
  | (with_reducible apply ep_nei) <;> clean_wf
  | (with_reducible apply ep_not) <;> clean_wf
  | ((with_reducible apply ep_and) <;> first | (intro _; clean_wf; done) | clean_wf)
  | ((with_reducible apply ep_or) <;> first | (intro _; clean_wf; done) | clean_wf)
  | (with_reducible apply et_t) <;> clean_wf
  | (with_reducible apply eo_is) <;> clean_wf
  | with_reducible exact eo_no
  | array_get_dec
  | bv_omega
  | rfl
  | skip)
local macro_rules | `(tactic| symm_saturate) => `(tactic| first
  | ((with_reducible apply q_set); (focus (clean_wf; done)))
  | ((with_reducible apply s_set); (focus (clean_wf; done)))
  | ((with_reducible apply q_aug (hx := rfl)); (focus (clean_wf; done)))
  | ((with_reducible apply s_aug (hx := rfl)); (focus (clean_wf; done)))
  | ((with_reducible apply q_augC (hx := rfl)); (focus (clean_wf; done)))
  | ((with_reducible apply s_augC (hx := rfl)); (focus (clean_wf; done))))
local macro_rules | `(tactic| subst_eqs) => `(tactic| repeat' (first
  | with_reducible apply w_c
  | ((with_reducible apply w_v'); (focus rfl))
  | with_reducible apply w_op
  | with_reducible apply w_cb
  | with_reducible apply w_cons
  | with_reducible apply w_nil
  | with_reducible apply r_add
  | with_reducible apply r_sub
  | ((with_reducible apply r_mul); (focus (bv_omega; done)))
  | ((with_reducible apply r_div); (focus (bv_omega; done)))
  | ((with_reducible apply r_mod); (focus (bv_omega; done)))
  | ((with_reducible apply r_pow); (focus (bv_omega; done)))
  | with_reducible apply r_lt
  | with_reducible apply r_le
  | with_reducible apply r_gt
  | with_reducible apply r_ge
  | with_reducible apply r_min
  | with_reducible apply r_max
  | with_reducible apply r_intB
  | ((with_reducible apply r_len); (focus (array_get_dec; done)))
  | with_reducible apply w_callW
  | with_reducible apply q_setW
  | with_reducible apply s_setW
  | with_reducible apply s_retW))

theorem cut_midZ (xs : List V) (i j : Nat) : (cutV xs (some (i : Int)) (some (j : Int))).length ≤ min j xs.length - min i xs.length := by
  unfold cutV
  rw [sIx_natG, sIx_natG, List.length_take, List.length_drop]
  omega
theorem w_revG {K : PySem.W.Frag} {σ : L2.St} {H : Hp} {te : TE} {Q : VK} (h : te σ H fun x H1 => ∃ a xs, x = .ref a ∧ SqL K H1 a xs ∧ ∀ p, H1 p = none → Q (.ref p) (upd H1 p (.lst xs.reverse))) : tRevL K te σ H Q := h
theorem ib_sc {K : PySem.W.Frag} {B : Hp} {m : Nat} {v : V} {d : PyData} (h : NoTu K B v) (dq : Dq K B v d) (sw : Sw d 3 560) (ne : ∀ q, d ≠ MU.pair q) : ∃ o d', IB K B m v o d' := ⟨none, d, .inl h, dq, sw, lk_off ne, fun q hq => nomatch hq⟩
def sp_law_spoilt (K : PySem.W.Frag) : Sp := fun vs H Q _ => Nod H ∧ ∃ (a r : Addr) (ds : List Int) (xs : List V) (m : Nat), vs = [.ref a, .ref r] ∧ H a = some (.lst (ds.map V.int)) ∧ DrOk ds ∧ H r = some (.lst xs) ∧ r ≠ a ∧ xs.length ≤ 600 ∧ m ≤ 10 ^ 36 ∧ IBs K (del H a) m xs ∧
  ∀ (p : Addr) (ys : List V) (ds' : List Int) (B' H' : Hp), Ex (del H a) B' → OF H B' [(p, ys), (a, ds'.map V.int)] H' → DrOk ds' → ys.length ≤ xs.length + 1 → IBs K B' (m + 100) ys → Q (.ref p) H'
/-- slots: draws given at way odd -/
abbrev n_law_spoilt : List Str := ["draws", "given", "at", "way", "odd"]
def t_law_spoilt (K : PySem.W.Frag) : TS := (sFg (tSeq (tAsg (tOp oMod (tOp oAdd (tOp oMul (tCall (sp_law_take K) [] E0 (tCons (tVar 0) (tCons (tC (.int 1000)) tNil))) (tC (.int 1000))) (tCall (sp_law_take K) [] E0 (tCons (tVar 0) (tCons (tC (.int 1000)) tNil)))) (tOp oAdd (tCB (cLen K) (tCons (tVar 1) tNil)) (tC (.int 1)))) (gName 2))
  (tSeq (tAsg (tCall (sp_law_take K) [] E0 (tCons (tVar 0) (tCons (tC (.int 9)) tNil))) (gName 3))
  (tSeq (tIfS (tTest (tOp rEq (tVar 3) (tC (.int 0)))) (tRet (tOp rCat (tSl (rSlL K) (tVar 1) tNoPart (tPart (tVar 2))) (tSl (rSlL K) (tVar 1) (tPart (tOp oAdd (tVar 2) (tC (.int 1)))) tNoPart))) tNext)
  (tSeq (tIfS (tTest (tOp rEq (tVar 3) (tC (.int 1)))) (tRet (tOp rCat (tOp rCat (tSl (rSlL K) (tVar 1) tNoPart (tPart (tVar 2))) (tOp rRep (tSl (rSlL K) (tVar 1) (tPart (tVar 2)) (tPart (tOp oAdd (tVar 2) (tC (.int 1))))) (tC (.int 2)))) (tSl (rSlL K) (tVar 1) (tPart (tOp oAdd (tVar 2) (tC (.int 1)))) tNoPart))) tNext)
  (tSeq (tIfS (tTest (tOp rEq (tVar 3) (tC (.int 2)))) (tRet (tOp rCat (tOp rCat (tSl (rSlL K) (tVar 1) tNoPart (tPart (tVar 2))) (tRevL K (tSl (rSlL K) (tVar 1) (tPart (tVar 2)) (tPart (tOp oAdd (tVar 2) (tC (.int 2))))))) (tSl (rSlL K) (tVar 1) (tPart (tOp oAdd (tVar 2) (tC (.int 2)))) tNoPart))) tNext)
  (tSeq (tIfS (tOr (tTest (tOp rEq (tVar 3) (tC (.int 3)))) (tTest (tOp (rEqX K) (tVar 1) (tLst tNil)))) (tSeq (tAsg (tOp (rIxL K) (tLst (tCons (tC .non) (tCons (tC (.int 0)) (tCons (tTup tNil) (tCons (tLst tNil) (tCons tDNewK (tCons (tC (.str (PySem.Str.ofString ""))) (tCons (tTup (tCons (tC (.int 1)) (tCons (tC (.int 0)) tNil))) (tCons (tTup (tCons (tC (.int 0)) (tCons (tC (.int 0)) tNil))) (tCons (tTup (tCons (tC (.int 1)) (tCons (tUn uNeg (tC (.int 1))) tNil))) (tCons (tC (.bl true)) tNil))))))))))) (tCall (sp_law_take K) [] E0 (tCons (tVar 0) (tCons (tC (.int 10)) tNil)))) (gName 4))
  (tRet (tOp rCat (tOp rCat (tSl (rSlL K) (tVar 1) tNoPart (tPart (tVar 2))) (tLst (tCons (tVar 4) tNil))) (tSl (rSlL K) (tVar 1) (tPart (tOp oAdd (tVar 2) (tCall (sp_law_take K) [] E0 (tCons (tVar 0) (tCons (tC (.int 2)) tNil))))) tNoPart)))) tNext)
  (tSeq (tAsg (tOp oMod (tVar 2) (tCB (cLen K) (tCons (tVar 1) tNil))) (gName 2))
  (tRet (tOp rCat (tOp rCat (tSl (rSlL K) (tVar 1) tNoPart (tPart (tVar 2))) (tLst (tCons (tCall (sp_law_bent K) [] E0 (tCons (tVar 0) (tCons (tOp (rIxL K) (tVar 1) (tVar 2)) tNil))) tNil))) (tSl (rSlL K) (tVar 1) (tPart (tOp oAdd (tVar 2) (tC (.int 1)))) tNoPart)))))))))))
theorem r_law_spoilt {K : PySem.W.Frag} {vs : List V} {H : Hp} {Q : VK} {E : XK} (h : sp_law_spoilt K vs H Q E) : t_law_spoilt K { nx := fun _ H' => Q .non H', rt := Q } (start n_law_spoilt vs) H := by
  obtain ⟨nd, a, r, ds, xs, m, rfl, ha, ok, hr, hra, hlx, hm, hxs, q⟩ := h
  have rb : del H a r = some (.lst xs) := by rw [del_ne hra]; exact hr
  have c : OF H (del H a) [(a, ds.map V.int)] H := ⟨Own.enter ha, fun b u h0 h1 => by rw [h0] at h1; cases h1⟩
  have fin : ∀ {B2 H3 : Hp} {p : Addr} {ys : List V} {ds : List Int}, OF H B2 [(p, ys), (a, ds.map V.int)] H3 → Ex (del H a) B2 → DrOk ds → ys.length ≤ xs.length + 1 → IBs K B2 (m + 100) ys → ∃ H'', Fg H H3 H'' ∧ Q (.ref p) H'' := fun {B2 H3 p ys ds} c e ok hl hv =>
    ⟨_, fg_full c.o.nod ha (c.o.atI 1 rfl) (ex_trans e c.o.ex) c.f, q p ys ds _ _ e c ok hl hv⟩
  -- at
  refine fg_body (q_setW (w_op (w_op (w_op (w_callW (w_cons (w_v 0 (w_one (w_c ?_)))))))))
  refine c.takeZ 0 rfl ok (by omega) fun t0 ds H1 ht0 ok c => ?_
  replace c : OF H (del H a) [(a, ds.map V.int)] H1 := c
  refine w_c (r_mul (cm (by omega)) (w_callW (w_cons (w_v 0 (w_one (w_c ?_))))))
  refine c.takeZ 0 rfl ok (by omega) fun t1 ds H2 ht1 ok c => ?_
  replace c : OF H (del H a) [(a, ds.map V.int)] H2 := c
  refine r_add (w_ev (ev_eq (y := .int ((xs.length + 1 : Nat) : Int)) (ev_add (i := (xs.length : Int)) (ev_len (ev_v 1) (sq_at (c.b rb))) ev_c) (by rfl)) (r_mod (by omega) ?_))
  obtain ⟨k, hk, hkl⟩ : ∃ k : Nat, (t0 * 1000 + t1) % ((xs.length + 1 : Nat) : Int) = (k : Int) ∧ k ≤ xs.length := ⟨((t0 * 1000 + t1) % ((xs.length + 1 : Nat) : Int)).toNat, by have := Int.emod_nonneg (t0 * 1000 + t1) (b := ((xs.length + 1 : Nat) : Int)) (by omega); omega, by
    have h1 := Int.emod_nonneg (t0 * 1000 + t1) (b := ((xs.length + 1 : Nat) : Int)) (by omega)
    have h2 := Int.emod_lt_of_pos (t0 * 1000 + t1) (b := ((xs.length + 1 : Nat) : Int)) (by omega)
    omega⟩
  rw [hk]
  -- way
  refine q_setW (w_callW (w_cons (w_v 0 (w_one (w_c ?_)))))
  refine c.takeZ 0 rfl ok (by omega) fun way ds H3 hway ok c => ?_
  replace c : OF H (del H a) [(a, ds.map V.int)] H3 := c
  have hxm := hxs.more (m' := m + 100) (by omega)
  have hto : ∀ j : Nat, (cutV xs none (some (j : Int))).length = min j xs.length := fun j => by rw [cut_toG, List.length_take]
  have hfr : ∀ j : Nat, (cutV xs (some (j : Int)) none).length = xs.length - j := fun j => by rw [cut_fromG, List.length_drop]
  have ev1 : ∀ {σ : L2.St} {H : Hp}, σ[2]? = some (some (.int (k : Int))) → Ev (tOp oAdd (tVar 2) (tC (.int 1))) σ H (.int ((k + 1 : Nat) : Int)) := fun h => ev_eq (ev_add (i := (k : Int)) (ev_v' h) ev_c) rfl
  have ev2 : ∀ {σ : L2.St} {H : Hp}, σ[2]? = some (some (.int (k : Int))) → Ev (tOp oAdd (tVar 2) (tC (.int 2))) σ H (.int ((k + 2 : Nat) : Int)) := fun h => ev_eq (ev_add (i := (k : Int)) (ev_v' h) ev_c) rfl
  -- out
  refine q_whenP (ep_eqi (ev_v 3) ev_c) (fun _ => s_retW (w_op (w_slZ c rb (ev_v 1) eo_no (eo_is (ev_v 2)) fun p1 H4 c => w_slZ c rb (ev_v 1) (eo_is (ev1 rfl)) eo_no fun p2 H5 c => w_catZ c 1 0 rfl rfl (by rw [hto, hfr]; omega) fun p3 H6 c => fin (c.sub ((((List.Sublist.refl _).cons _).cons _).cons₂ _)) ex_refl ok (by rw [List.length_append, hto, hfr]; omega) (ibs_app (ibs_sub hxm cut_memG) (ibs_sub hxm cut_memG))))) fun w0 => ?_
  -- twice
  refine q_whenP (ep_eqi (ev_v 3) ev_c) (fun _ => s_retW (w_op (w_op (w_slZ c rb (ev_v 1) eo_no (eo_is (ev_v 2)) fun p1 H4 c => w_op (w_slZ c rb (ev_v 1) (eo_is (ev_v 2)) (eo_is (ev1 rfl)) fun p2 H5 c => w_c ?_))))) fun w1 => ?_
  · have hmid := cut_midZ xs k (k + 1)
    refine ⟨p2, 2, _, rfl, rfl, c.o.atI 0 rfl, by omega, by omega, by rw [sizeLine_eq, show (2 : Int).toNat = 2 from rfl]; omega, fun p3 hp3 => ?_⟩
    rw [show (List.replicate (2 : Int).toNat (cutV xs (some (k : Int)) (some ((k + 1 : Nat) : Int)))).flatten = cutV xs (some (k : Int)) (some ((k + 1 : Nat) : Int)) ++ cutV xs (some (k : Int)) (some ((k + 1 : Nat) : Int)) by show ([_, _] : List (List V)).flatten = _; simp]
    replace c := c.new (xs := cutV xs (some (k : Int)) (some ((k + 1 : Nat) : Int)) ++ cutV xs (some (k : Int)) (some ((k + 1 : Nat) : Int))) hp3
    refine w_catZ c 2 0 rfl rfl (by rw [hto, List.length_append]; omega) fun p4 H6 c => w_slZ c rb (ev_v 1) (eo_is (ev1 rfl)) eo_no fun p5 H7 c => w_catZ c 1 0 rfl rfl (by rw [List.length_append, List.length_append, hto, hfr]; omega) fun p6 H8 c => fin (c.sub (((((((List.Sublist.refl _).cons _).cons _).cons _).cons _).cons _).cons₂ _)) ex_refl ok ?_ (ibs_app (ibs_app (ibs_sub hxm cut_memG) (ibs_app (ibs_sub hxm cut_memG) (ibs_sub hxm cut_memG))) (ibs_sub hxm cut_memG))
    rw [List.length_append, List.length_append, List.length_append, hto, hfr]
    omega
  -- exchanged
  refine q_whenP (ep_eqi (ev_v 3) ev_c) (fun _ => s_retW (w_op (w_op (w_slZ c rb (ev_v 1) eo_no (eo_is (ev_v 2)) fun p1 H4 c => w_revG (w_slZ c rb (ev_v 1) (eo_is (ev_v 2)) (eo_is (ev2 rfl)) fun p2 H5 c => ⟨p2, _, rfl, c.o.sqi 0 rfl, fun p3 hp3 => ?_⟩))))) fun w2 => ?_
  · replace c := c.new (xs := (cutV xs (some (k : Int)) (some ((k + 2 : Nat) : Int))).reverse) hp3
    have hmid := cut_midZ xs k (k + 2)
    refine w_catZ c 2 0 rfl rfl (by rw [hto, List.length_reverse]; omega) fun p4 H6 c => w_slZ c rb (ev_v 1) (eo_is (ev2 rfl)) eo_no fun p5 H7 c => w_catZ c 1 0 rfl rfl (by rw [List.length_append, hto, hfr, List.length_reverse]; omega) fun p6 H8 c => fin (c.sub (((((((List.Sublist.refl _).cons _).cons _).cons _).cons _).cons _).cons₂ _)) ex_refl ok ?_ (ibs_app (ibs_app (ibs_sub hxm cut_memG) (ibs_sub hxm fun y hy => cut_memG y (List.mem_reverse.mp hy))) (ibs_sub hxm cut_memG))
    rw [List.length_append, List.length_append, hto, hfr, List.length_reverse]
    omega
  -- whether nothing is in the list
  have test : ∀ (Q' : Bool → Hp → Prop), (∀ b H4, OF H (del H a) [(a, ds.map V.int)] H4 → (b = false → xs ≠ []) → Q' b H4) → (tOr (tTest (tOp rEq (tVar 3) (tC (.int 3)))) (tTest (tOp (rEqX K) (tVar 1) (tLst tNil)))) [some (.ref a), some (.ref r), some (.int (k : Int)), some (.int way), none] H3 Q' := fun Q' q' => by
    refine w_or (w_tst (w_op (w_v 3 (w_c ⟨rfl, _, rfl, ?_⟩))))
    by_cases h3 : V.int way = V.int 3
    · rw [decide_eq_true h3]
      exact iteT (q' true _ c fun z => nomatch z)
    · rw [decide_eq_false h3]
      refine iteF (w_tst (w_op (w_v 1 (el_nil _ fun pn hpn => ?_))))
      replace c := c.new (xs := []) hpn
      refine rx_nil (xs := xs) (sq_at (c.b rb)) (c.o.sqi 0 rfl) ⟨_, rfl, ?_⟩
      exact q' _ _ (c.sub ((List.Sublist.refl _).cons _)) fun z => of_decide_eq_false z
  refine q_ifW (test _ fun b H4 c hne => ?_)
  cases b with
  | true =>
    have hm2 : m + 100 < 10 ^ 38 := by omega
    refine iteT (q_setW (w_op (w_lst (w_cons (w_c (w_cons (w_c (w_cons (w_tupW (ea_nil _ ⟨Nat.zero_le _, fun t1 ht1 => ?_⟩))))))))))
    have x1 := ex_new (o := .tup []) (c.noB ht1)
    replace c := c.base (u := .tup []) ht1 trivial
    have s1 : (upd (del H a) t1 (.tup [])) t1 = some (.tup []) := upd_same
    generalize upd (del H a) t1 _ = B1 at c x1 s1
    refine w_cons (el_nil _ fun t2 ht2 => ?_)
    have x2 := ex_new (o := .lst []) (c.noB ht2)
    replace c := c.base (u := .lst []) ht2 trivial
    have s2 : (upd B1 t2 (.lst [])) t2 = some (.lst []) := upd_same
    generalize upd B1 t2 _ = B2 at c x2 s2
    refine w_cons (fun t3 ht3 => ?_)
    have x3 := ex_new (o := .dK []) (c.noB ht3)
    replace c := c.base (u := .dK []) ht3 trivial
    have s3 : (upd B2 t3 (.dK [])) t3 = some (.dK []) := upd_same
    generalize upd B2 t3 _ = B3 at c x3 s3
    refine w_cons (w_c (w_cons (w_tupW (ea_2 ev_c ev_c _ ⟨by show 2 ≤ sizeLine; decide, fun t4 ht4 => ?_⟩))))
    have x4 := ex_new (o := .tup (pvals (1, 0))) (c.noB ht4)
    replace c := c.base (u := .tup (pvals (1, 0))) ht4 trivial
    have s4 : (upd B3 t4 (.tup (pvals (1, 0)))) t4 = some (.tup (pvals (1, 0))) := upd_same
    generalize upd B3 t4 _ = B4 at c x4 s4
    refine w_cons (w_tupW (ea_2 ev_c ev_c _ ⟨by show 2 ≤ sizeLine; decide, fun t5 ht5 => ?_⟩))
    have x5 := ex_new (o := .tup (pvals (0, 0))) (c.noB ht5)
    replace c := c.base (u := .tup (pvals (0, 0))) ht5 trivial
    have s5 : (upd B4 t5 (.tup (pvals (0, 0)))) t5 = some (.tup (pvals (0, 0))) := upd_same
    generalize upd B4 t5 _ = B5 at c x5 s5
    refine w_cons (w_tupW (ea_2 ev_c (ev_neg ev_c) _ ⟨by show 2 ≤ sizeLine; decide, fun t6 ht6 => ?_⟩))
    have x6 := ex_new (o := .tup (pvals (1, -1))) (c.noB ht6)
    replace c := c.base (u := .tup (pvals (1, -1))) ht6 trivial
    have s6 : (upd B5 t6 (.tup (pvals (1, -1)))) t6 = some (.tup (pvals (1, -1))) := upd_same
    generalize upd B5 t6 _ = B6 at c x6 s6
    have x56 := ex_trans x5 x6
    have x46 := ex_trans x4 x56
    have x36 := ex_trans x3 x46
    have x26 := ex_trans x2 x36
    refine w_one (w_c ⟨by show 10 ≤ sizeLine; decide, fun tl htl => ?_⟩)
    obtain ⟨zs, hzs⟩ : ∃ zs : List V, zs = [.non, .int 0, .ref t1, .ref t2, .ref t3, .str (PySem.Str.ofString ""), .ref t4, .ref t5, .ref t6, .bl true] := ⟨_, rfl⟩
    have all : ∀ z ∈ zs, ∃ o d, IB K B6 (m + 100) z o d := by
      rw [hzs]
      intro z hz
      simp only [List.mem_cons, List.not_mem_nil, or_false] at hz
      rcases hz with rfl | rfl | rfl | rfl | rfl | rfl | rfl | rfl | rfl | rfl
      · exact ib_sc ⟨"NoneType", .inl (.base .non), by decide +kernel⟩ .non (sw_non.more (by omega) (by omega)) fun q z => by cases z
      · exact ib_sc ⟨"int", .inl (.base (.int 0)), by decide +kernel⟩ (.int 0) ((sw_int (by decide)).more (by omega) (by omega)) fun q z => by cases z
      · exact ib_ints (ns := []) (x26 _ _ s1) (by simp) (by simp) fun n hn => (List.not_mem_nil hn).elim
      · exact ib_list (ns := []) (x36 _ _ s2) (by simp) fun n hn => (List.not_mem_nil hn).elim
      · exact ib_sc ⟨"dict", .inl (.base (.dK (x46 _ _ s3))), by decide +kernel⟩ (.dK (ps := []) (x46 _ _ s3) .nil .nil) ((sw_dict (dep := 0) swk_nil).more (by omega) (by omega)) fun q z => by cases z
      · exact ib_sc ⟨"str", .inl (.base (.str _)), by decide +kernel⟩ (.str _) ((sw_str (sml_of "")).more (by omega) (by decide)) fun q z => by cases z
      · exact ⟨_, _, ib_pair (q := (1, 0)) (x56 _ _ s4) ⟨by show 1 ≤ _; omega, by show 0 ≤ _; omega⟩ hm2⟩
      · exact ⟨_, _, ib_pair (q := (0, 0)) (x6 _ _ s5) ⟨by show 0 ≤ _; omega, by show 0 ≤ _; omega⟩ hm2⟩
      · exact ⟨_, _, ib_pair (q := (1, -1)) s6 ⟨by show 1 ≤ _; omega, by show 1 ≤ _; omega⟩ hm2⟩
      · exact ib_sc ⟨"bool", .inl (.base (.bl true)), by decide +kernel⟩ (.bl true) (sw_bl.more (by omega) (by omega)) fun q z => by cases z
    have eB : Ex (del H a) B6 := ex_trans x1 x26
    have hl10 : (zs.length : Int) = 10 := by rw [hzs]; rfl
    rw [← hzs]
    replace c := c.new (xs := zs) htl
    refine w_callW (w_cons (w_v 0 (w_one (w_c ?_))))
    refine c.takeZ 1 rfl ok (by omega) fun t10 ds H5 ht10 ok c => ?_
    obtain ⟨z, hz, hatz⟩ := atI_memG ht10.1 (by omega : t10 < (zs.length : Int))
    refine r_ix (c.o.sqi 0 rfl) hatz ?_
    replace c : OF H B6 [(a, ds.map V.int)] H5 := c.sub ((List.Sublist.refl _).cons _)
    refine s_retW (w_op (w_op (w_slZ c (eB _ _ rb) (ev_v 1) eo_no (eo_is (ev_v 2)) fun p1 H6 c => w_lsZ c (ea_1 (ev_v 4)) (by simp) fun p2 H7 c => w_catZ c 1 0 rfl rfl (by rw [hto]; simp; omega) fun p3 H8 c => w_v 1 (w_op (w_v 2 (w_callW (w_cons (w_v 0 (w_one (w_c ?_))))))))))
    refine OF.takeZ c 3 rfl ok (by omega) fun t ds H9 ht ok c => ?_
    obtain ⟨k2, hk2, hle⟩ : ∃ k2 : Nat, (k : Int) + t = (k2 : Int) ∧ k ≤ k2 := ⟨((k : Int) + t).toNat, by omega, by omega⟩
    refine r_add ?_
    rw [hk2]
    refine ⟨_, rfl, r, xs, rfl, sq_at (c.b (eB _ _ rb)), fun p4 hp4 => ?_⟩
    replace c : OF H B6 [(p4, cutV xs (some (k2 : Int)) none), (p3, cutV xs none (some (k : Int)) ++ [z]), (p2, [z]), (p1, cutV xs none (some (k : Int))), (a, ds.map V.int)] _ := c.new hp4
    refine w_catZ c 1 0 rfl rfl (by rw [List.length_append, hto, hfr]; simp; omega) fun p5 H10 c => fin (c.sub ((((((List.Sublist.refl _).cons _).cons _).cons _).cons _).cons₂ _)) eB ok (by rw [List.length_append, List.length_append, hto, hfr]; simp; omega) (ibs_app (ibs_app ((ibs_sub hxm cut_memG).ex eB) fun y hy => by rw [List.mem_singleton.mp hy]; exact all z hz) ((ibs_sub hxm cut_memG).ex eB))
  | false =>
    have hne := hne rfl
    have hlen : 0 < xs.length := List.length_pos_iff.mpr hne
    refine iteF ?_
    have hj : k % xs.length < xs.length := Nat.mod_lt _ hlen
    refine q_set (σ := [some (.ref a), some (.ref r), some (.int (k : Int)), some (.int way), none]) (H := H4) (v := .int ((k % xs.length : Nat) : Int)) (ev_eq (ev_mod (i := (k : Int)) (j := (xs.length : Int)) (ev_v 2) (ev_len (ev_v 1) (sq_at (c.b rb))) (by omega)) (by simp)) ?_
    generalize k % xs.length = j at hj
    obtain ⟨o, d, ibx⟩ := hxs xs[j] (List.getElem_mem hj)
    refine s_retW (w_op (w_op (w_slZ c rb (ev_v 1) eo_no (eo_is (ev_v 2)) fun p1 H5 c => w_lst (w_one (w_callW (w_cons (w_v 0 (w_one (w_op (w_v 1 (w_v 2 (r_ix (sq_at (c.b rb)) (at_of (j := j) rfl (List.getElem?_eq_getElem hj)) ⟨c.o.nod, a, ds, xs[j], m, o, d, rfl, c.o.atI 1 rfl, ok, ibx.ex (own_del c.o 1 rfl), hm, fun v' ds' B' H' e' c' ok' ib' => ⟨by show 1 ≤ sizeLine; decide, fun p2 hp2 => ?_⟩⟩))))))))))))
    have hp1 : B' p1 = some (.lst (cutV xs none (some (j : Int)))) := e' _ _ (by rw [del_ne (c.o.ne 0 1 rfl rfl (by omega))]; exact c.o.atI 0 rfl)
    have eB : Ex (del H a) B' := ex_trans (own_del c.o 1 rfl) e'
    have c2 : OF H B' [(a, ds'.map V.int)] H' := ⟨c'.o, fun b u h0 h1 => by
      cases h5 : H5 b with
      | none => exact c'.f b u h5 h1
      | some w =>
        have hba : b ≠ a := fun z => by rw [z, ha] at h0; cases h0
        have h6 := c'.o.ex _ _ (e' b w (by rw [del_ne hba]; exact h5))
        rw [h1] at h6
        cases h6
        exact c.f b u h0 h5⟩
    replace c2 := c2.new (xs := [v']) hp2
    refine ⟨p1, p2, _, _, rfl, rfl, c2.b hp1, c2.o.atI 0 rfl, Nat.le_of_lt (szl (by rw [hto]; simp; omega)), fun p3 hp3 => ?_⟩
    replace c2 := c2.new (xs := cutV xs none (some (j : Int)) ++ [v']) hp3
    have evj : ∀ {σ : L2.St} {H : Hp}, σ[2]? = some (some (.int (j : Int))) → Ev (tOp oAdd (tVar 2) (tC (.int 1))) σ H (.int ((j + 1 : Nat) : Int)) := fun h => ev_eq (ev_add (i := (j : Int)) (ev_v' h) ev_c) rfl
    refine w_slZ c2 (eB _ _ rb) (ev_v 1) (eo_is (evj rfl)) eo_no fun p5 H7 c3 => w_catZ c3 1 0 rfl rfl (by rw [List.length_append, hto, hfr]; simp; omega) fun p6 H8 c4 => fin (c4.sub (((((List.Sublist.refl _).cons _).cons _).cons _).cons₂ _)) eB ok' (by rw [List.length_append, List.length_append, hto, hfr]; simp; omega) (ibs_app (ibs_app ((ibs_sub hxm cut_memG).ex eB) fun y hy => by rw [List.mem_singleton.mp hy]; exact ib') ((ibs_sub hxm cut_memG).ex eB))
end Px
set_option Elab.async false
set_option linter.all false
set_option maxRecDepth 100000
set_option maxHeartbeats 4000000
namespace Px
open PySem L2 MA
local macro_rules | `(tactic| bv_omega) => `(tactic| first | assumption | omega | exact cm (by omega) | exact cd (by omega) | exact cp (by omega) | exact trivial)
local macro_rules | `(tactic| array_get_dec) => `(tactic| first
  | assumption
  | exact sq_up
  | exact Own.sqi (by assumption) 0 (by rfl)
  | exact Own.sqi (by assumption) 1 (by rfl)
  | exact Own.sqi (by assumption) 2 (by rfl)
  | exact Own.sqi (by assumption) 3 (by rfl)
  | exact Own.sqi (by assumption) 4 (by rfl)
  | exact Own.sq (by assumption) (by assumption)
  | exact sq_new (by assumption) (by assumption))
local macro_rules | `(tactic| clean_wf) => `(tactic| first
  | with_reducible exact ev_c
  | (with_reducible apply ev_v') <;> rfl
  | (with_reducible apply ev_add) <;> clean_wf
  | (with_reducible apply ev_sub) <;> clean_wf
  | (with_reducible apply ev_mul) <;> clean_wf
  | (with_reducible apply ev_mod) <;> clean_wf
  | (with_reducible apply ev_div) <;> clean_wf
  | (with_reducible apply ev_pow) <;> clean_wf
  | (with_reducible apply ev_neg) <;> clean_wf
  | (with_reducible apply ev_lt) <;> clean_wf
  | (with_reducible apply ev_le) <;> clean_wf
  | (with_reducible apply ev_gt) <;> clean_wf
  | (with_reducible apply ev_ge) <;> clean_wf
  | (with_reducible apply ev_eqi) <;> clean_wf
  | (with_reducible apply ev_nei) <;> clean_wf
  | (with_reducible apply ev_len) <;> clean_wf
  | (with_reducible apply ev_ixL) <;> clean_wf
  | (with_reducible apply ev_min) <;> clean_wf
  | (with_reducible apply ev_max) <;> clean_wf
  | (with_reducible apply ev_abs) <;> clean_wf
  | (with_reducible apply ev_intB) <;> clean_wf
  | (with_reducible apply ea_1) <;> clean_wf
  | (with_reducible apply ea_2) <;> clean_wf
  | (with_reducible apply ea_3) <;> clean_wf
  | with_reducible exact ea_nil
  | (with_reducible apply ea_cons) <;> clean_wf
  | with_reducible exact el_nil
  | (with_reducible apply ep_lt) <;> clean_wf
  | (with_reducible apply ep_le) <;> clean_wf
  | (with_reducible apply ep_gt) <;> clean_wf
  | (with_reducible apply ep_ge) <;> clean_wf
  | (with_reducible apply ep_eqi) <;> clean_wf
  | (with_reducible apply ep_nei) <;> clean_wf
  | (with_reducible apply ep_not) <;> clean_wf
  | ((with_reducible apply ep_and) <;> first | (intro _; clean_wf; done) | clean_wf)
  | ((with_reducible apply ep_or) <;> first | (intro _; clean_wf; done) | clean_wf)
  | (with_reducible apply et_t) <;> clean_wf
  | (with_reducible apply eo_is) <;> clean_wf
  | with_reducible exact eo_no
  | array_get_dec
  | bv_omega
  | rfl
  | skip)
local macro_rules | `(tactic| symm_saturate) => `(tactic| first
  | ((with_reducible apply q_set); (focus (clean_wf; done)))
  | ((with_reducible apply s_set); (focus (clean_wf; done)))
  | ((with_reducible apply q_aug (hx := rfl)); (focus (clean_wf; done)))
  | ((with_reducible apply s_aug (hx := rfl)); (focus (clean_wf; done)))
  | ((with_reducible apply q_augC (hx := rfl)); (focus (clean_wf; done)))
  | ((with_reducible apply s_augC (hx := rfl)); (focus (clean_wf; done))))
local macro_rules | `(tactic| subst_eqs) => `(tactic| repeat' (first
  | with_reducible apply w_c
  | ((with_reducible apply w_v'); (focus rfl))
  | with_reducible apply w_op
  | with_reducible apply w_cb
  | with_reducible apply w_cons
  | with_reducible apply w_nil
  | with_reducible apply r_add
  | with_reducible apply r_sub
  | ((with_reducible apply r_mul); (focus (bv_omega; done)))
  | ((with_reducible apply r_div); (focus (bv_omega; done)))
  | ((with_reducible apply r_mod); (focus (bv_omega; done)))
  | ((with_reducible apply r_pow); (focus (bv_omega; done)))
  | with_reducible apply r_lt
  | with_reducible apply r_le
  | with_reducible apply r_gt
  | with_reducible apply r_ge
  | with_reducible apply r_min
  | with_reducible apply r_max
  | with_reducible apply r_intB
  | ((with_reducible apply r_len); (focus (array_get_dec; done)))
  | with_reducible apply w_callW
  | with_reducible apply q_setW
  | with_reducible apply s_setW
  | with_reducible apply s_retW))

/-! ### things that can be judged -/
def Jd (K : PySem.W.Frag) (B : Hp) (v : V) : Prop := ∃ l d, Pap K B v l ∧ Dq K B v d ∧ Sw d 6 345000 ∧ Lnk l d
theorem Jd.ex {K : PySem.W.Frag} {B B' : Hp} {v : V} (h : Jd K B v) (e : Ex B B') : Jd K B' v := by
  obtain ⟨l, d, h1, h2, h3, h4⟩ := h
  exact ⟨l, d, h1.ex e, h2.ex e, h3, h4⟩
theorem cut_lenG (xs : List V) (lo hi : Option Int) : (cutV xs lo hi).length ≤ xs.length := by
  unfold cutV
  rw [List.length_take, List.length_drop]
  omega
theorem sml_pair (q : Int × Int) : Sml (MU.pair q).shown := fun c hc => by
  have h : c ∈ MU.sg (MU.pair q) := hc
  have hn : ∀ i : Int, c ∈ MU.sg (.int i) → c < 16 ^ 8 := fun i hi => by
    have := MU.sg_int_num c hi
    unfold MU.Num at this
    omega
  unfold MU.pair at h
  rw [MU.sg_tup, MU.T] at h
  simp only [List.mem_cons, List.mem_append, List.not_mem_nil, or_false, false_or, List.nil_append] at h
  rcases h with rfl | h | rfl | rfl | h | rfl
  · decide
  · exact hn _ h
  · decide
  · decide
  · exact hn _ h
  · decide
theorem sml_prs : ∀ (qs : List (Int × Int)), ∀ t ∈ PyData.shownAll (qs.map MU.pair), Sml t
  | [], t, h => by simp [PyData.shownAll] at h
  | q :: qs, t, h => by
    simp only [List.map_cons, PyData.shownAll, List.mem_cons] at h
    rcases h with rfl | h
    · exact sml_pair q
    · exact sml_prs qs t h
theorem sml_lprs (qs : List (Int × Int)) : Sml (PyData.list (qs.map MU.pair)).shown := by
  simp only [PyData.shown]
  exact sml_app (sml_from _ _ _ (sml_of _) (sml_prs qs)) (sml_of _)
theorem bulk_prs : ∀ qs : List (Int × Int), PyData.bulkAll (qs.map MU.pair) = 3 * qs.length
  | [] => by simp [PyData.bulkAll]
  | q :: qs => by
    have := bulk_prs qs
    rw [List.map_cons, PyData.bulkAll, this, List.length_cons]
    simp only [MU.pair, PyData.bulk, PyData.bulkAll]
    omega
theorem sw_ltext {qs : List (Int × Int)} (hl : qs.length ≤ 600) (hm : ∀ q ∈ qs, q.1.natAbs < 10 ^ 38 ∧ q.2.natAbs < 10 ^ 38) : Sw (.str (PyData.list (qs.map MU.pair)).shown) 0 80000 := by
  refine (sw_str (sml_lprs qs)).more (Nat.le_refl _) ?_
  have h1 := PyData.shown_le_bulk 40 (by decide) (.list (qs.map MU.pair)) (sw_list (swa_prsZ hm)).lv
  have h2 : (PyData.list (qs.map MU.pair)).bulk = 3 * qs.length := by rw [PyData.bulk, bulk_prs]
  rw [h2] at h1
  omega
section
variable {K : PySem.W.Frag} {B : Hp} {m : Nat} {a : Addr} {v : V} {d : PyData}
theorem jd_ibs {xs : List V} (h : IBs K B m xs) (ha : B a = some (.lst xs)) (hl : xs.length ≤ 600) : Jd K B (.ref a) := by
  obtain ⟨l, d, h1, h2, h3, h4⟩ := ibs_thing h ha hl
  exact ⟨l, d, h1, h2, h3.more (by omega) (by omega), h4⟩
theorem jd_off {t : String} {dep w : Nat} (ty : TyW K B v (.type t)) (k : kitB t "list" = some false) (dq : Dq K B v d) (sw : Sw d dep w) (hd : dep ≤ 6) (hw : w ≤ 345000) (ne : ∀ ds, d ≠ .list ds) : Jd K B v :=
  ⟨none, d, ⟨t, ty, k⟩, dq, sw.more hd hw, fun qs => ⟨(fun z => nomatch z), fun z => absurd z (ne _)⟩⟩
theorem jd_one {w : V} (ha : B a = some (.lst [w])) (hw : NoTu K B w) (dq : Dq K B w d) (sw : Sw d 5 340000) (ne : ∀ q, d ≠ MU.pair q) : Jd K B (.ref a) :=
  ⟨some [none], .list [d], ⟨a, [w], rfl, ha, rfl, fun j x o hx ho => by
    match j, hx, ho with
    | 0, hx, ho => cases hx; cases ho; exact .inl hw
    | j + 1, hx, ho => simp at hx⟩, .lst (sq_at ha) (.cons dq .nil), (sw_list (sw_cons sw sw_nil)).more (by omega) (by omega), fun qs => by
    cases qs with
    | nil => exact ⟨fun z => by simp at z, fun z => by simp at z⟩
    | cons q r => exact ⟨fun z => by simp at z, fun z => by
        injection z with z
        rw [List.map_cons] at z
        injection z with z _
        exact absurd z (ne q)⟩⟩
theorem ibs_prs {as : List Addr} {qs : List (Int × Int)} (pr : Prs B a as qs) (hm : ∀ q ∈ qs, q.1.natAbs ≤ m ∧ q.2.natAbs ≤ m) (hb : m < 10 ^ 38) : IBs K B m (as.map V.ref) := fun x hx => by
  obtain ⟨b, hb', rfl⟩ := List.mem_map.mp hx
  obtain ⟨i, hi⟩ := List.mem_iff_getElem?.mp hb'
  have hlt : i < qs.length := by rw [← pr.len]; exact (List.getElem?_eq_some_iff.mp hi).1
  exact ⟨_, _, ib_pair (pr.tup i b _ hi (List.getElem?_eq_getElem hlt)) (hm _ (List.getElem_mem hlt)) hb⟩
/-- a dict of numbers -/
abbrev kvP (q : Int × Int) : Key × V := (.inl q.1, .int q.2)
theorem jd_dict {qs : List (Int × Int)} (ha : B a = some (.dK (mergeK [] (qs.map kvP)))) (hm : ∀ q ∈ qs, q.1.natAbs < 10 ^ 38 ∧ q.2.natAbs < 10 ^ 38) (hl : qs.length ≤ 600) : Jd K B (.ref a) := by
  have hk : ∀ p ∈ mergeK [] (qs.map kvP), (∃ i : Int, p.1 = .inl i ∧ i.natAbs < 10 ^ 38) ∧ ∃ i : Int, p.2 = .int i ∧ i.natAbs < 10 ^ 38 := merge_all (Pk := fun k => ∃ i : Int, k = .inl i ∧ i.natAbs < 10 ^ 38) (Pv := fun v => ∃ i : Int, v = .int i ∧ i.natAbs < 10 ^ 38) (qs.map kvP) [] (fun p hp => (List.not_mem_nil hp).elim) (fun p hp => by
    obtain ⟨q, hq, rfl⟩ := List.mem_map.mp hp
    exact ⟨⟨_, rfl, (hm q hq).1⟩, ⟨_, rfl, (hm q hq).2⟩⟩)
  have hlen : (mergeK [] (qs.map kvP)).length ≤ 600 := by
    refine Nat.le_trans (length_mergeK _ []) ?_
    rw [List.length_nil, Nat.zero_add, List.length_map]; exact hl
  generalize mergeK [] (qs.map kvP) = kvs at ha hk hlen
  have key : ∀ l : List (Key × V), (∀ p ∈ l, (∃ i : Int, p.1 = .inl i ∧ i.natAbs < 10 ^ 38) ∧ ∃ i : Int, p.2 = .int i ∧ i.natAbs < 10 ^ 38) → ∃ ps : List (PyData × PyData), DqAll K B (l.map fun p => kV p.1) (ps.map (·.1)) ∧ DqAll K B (l.map (·.2)) (ps.map (·.2)) ∧ SwK ps 0 (262 * l.length) := by
    intro l
    induction l with
    | nil => exact fun _ => ⟨[], .nil, .nil, swk_nil⟩
    | cons p l ih =>
      intro h
      obtain ⟨ps, h1, h2, h3⟩ := ih fun q hq => h q (List.mem_cons_of_mem _ hq)
      obtain ⟨⟨i, e1, b1⟩, ⟨j, e2, b2⟩⟩ := h p List.mem_cons_self
      refine ⟨(.int i, .int j) :: ps, ?_, ?_, ⟨(swk_cons (sw_int b1) (sw_int b2) h3).sh, (swk_cons (sw_int b1) (sw_int b2) h3).dp, (swk_cons (sw_int b1) (sw_int b2) h3).lv, ?_⟩⟩
      · rw [List.map_cons, List.map_cons, e1]
        exact .cons (.int i) h1
      · rw [List.map_cons, List.map_cons, e2]
        exact .cons (.int j) h2
      · have := (swk_cons (sw_int b1) (sw_int b2) h3).wt
        rw [List.length_cons]
        omega
  obtain ⟨ps, h1, h2, h3⟩ := key kvs hk
  exact jd_off (t := "dict") (.inl (.base (.dK ha))) (by decide +kernel) (.dK ha h1 h2) (sw_dict h3) (by omega) (by omega) fun ds z => nomatch z
theorem jd_kept {r : Addr} {row : List Nat} (hr : B r = some (.lst (zv row))) (hl : row.length ≤ 6) (hb : ∀ x ∈ row, x < 1000) (dq : Dq K B v d) (sw : Sw d 6 345000) (H' : Hp) (pk : Addr) (e : Ex B H') (hp : H' pk = some (.lst [.ref r, v])) : Shn K H' (.ref pk) (.list [.list ((zl row).map PyData.int), d]) := by
  have h1 : SwA ((zl row).map PyData.int) 0 (131 * (zl row).length) := swa_ints (zl row) fun n hn => by
    obtain ⟨x, hx, rfl⟩ := List.mem_map.mp hn
    have h1 := hb x hx
    have : (10 : Nat) ^ 3 < 10 ^ 38 := by decide
    simp only [Int.natAbs_natCast]
    omega
  have h2 : (zl row).length ≤ 6 := by simpa using hl
  exact shn (.lst (sq_at hp) (.cons (.lst (sq_at (e _ _ hr)) (dqa_ints (zl row))) (.cons (dq.ex e) .nil))) (sw_list (sw_cons ((sw_list h1).more (dep' := 6) (by omega) (Nat.le_refl _)) (sw_cons sw sw_nil))) (by decide) (by omega)
end
theorem jds_ex {K : PySem.W.Frag} {B B' : Hp} {vs : List V} (h : ∀ v ∈ vs, Jd K B v) (e : Ex B B') : ∀ v ∈ vs, Jd K B' v := fun v hv => (h v hv).ex e
theorem jd_snoc {K : PySem.W.Frag} {B : Hp} {vs : List V} {x : V} (js : ∀ v ∈ vs, Jd K B v) (t : Jd K B x) : ∀ v ∈ vs ++ [x], Jd K B v := fun v hv => (List.mem_append.mp hv).elim (js v) fun z => by rw [List.mem_singleton.mp z]; exact t
theorem jd_put {K : PySem.W.Frag} {H0 B0 B H : Hp} {L : List (Addr × List V)} {vs : List V} {p : Addr} {u : HO} (c : OF H0 B L H) (hp : H p = none) (fu : fresh u) (js : ∀ v ∈ vs, Jd K B v) (e : Ex B0 B) (t : Jd K (upd B p u) (.ref p)) : ∃ B', OF H0 B' L (upd H p u) ∧ Ex B B' ∧ Ex B0 B' ∧ (∀ v ∈ vs ++ [.ref p], Jd K B' v) ∧ B' p = some u :=
  ⟨_, c.base hp fu, ex_new (c.noB hp), ex_trans e (ex_new (c.noB hp)), jd_snoc (jds_ex js (ex_new (c.noB hp))) t, upd_same⟩
/-! ### what is called -/
theorem every_le {p : Nat} {r : List Nat} {low high : Nat} (i : PapIn p r low high) : ∀ q ∈ every p r low high, q.1.natAbs ≤ 2 ^ 60 ∧ q.2.natAbs ≤ 2 ^ 60 := fun q hq => by
  unfold every at hq
  obtain ⟨x, hx, rfl⟩ := List.mem_map.mp hq
  have hp := i.w.ge (p := p) List.mem_cons_self
  have hm := allL_mem.mp hx
  have h0 := mk_pos i.w.tail.good.ge hm.1
  have h1 := tn_small (p := p) hp.1 i.low0 h0
  have h2 := i.low1
  have h3 := i.high1
  exact ⟨by show (x : Int).natAbs ≤ _; omega, by show ((tn p x low : Int) - 1).natAbs ≤ _; omega⟩
theorem every_len {p : Nat} {r : List Nat} {low high : Nat} : (every p r low high).length = (allL r high).length := List.length_map _
theorem OF.allZ {K : PySem.W.Frag} {H0 B H : Hp} {L : List (Addr × List V)} {r : Addr} {p : Nat} {rr : List Nat} {low high : Nat} {Q : VK} {E : XK} (c : OF H0 B L H) (ra : RowAt B r (p :: rr)) (i : PapIn p rr low high)
    (k : ∀ (pf : Addr) (as : List Addr) (B' H2 : Hp), Ex B B' → OF H0 B' L H2 → Prs B' pf as (every p rr low high) → Q (.ref pf) H2) : sp_law_all K ([.ref r, .int (low : Int), .int (high : Int)] ++ []) H Q E :=
  ⟨c.o.nod, r, p, rr, low, high, rfl, ra.ex c.o.ex, i, fun pf as H' hpf hnew e n f pr => by
    have hS : ∀ b ∈ pf :: as, H b = none := fun b hb => (List.mem_cons.mp hb).elim (fun z => by rw [z]; exact hpf) (hnew b)
    exact k pf as (keepS B H' (pf :: as)) H' (keepS_ex fun b hb => ex_none c.o.ex (hS b hb)) ⟨c.o.keepB e n _ hS, fun b u h0 h1 => by
      cases hb : H b with
      | none => exact f b u hb h1
      | some w =>
        have := e b w hb
        rw [h1] at this; cases this
        exact c.f b u h0 hb⟩ (pr.keep List.mem_cons_self fun b hb => List.mem_cons_of_mem _ hb)⟩
theorem OF.spoiltZ {K : PySem.W.Frag} {H0 B H : Hp} {a q : Addr} {ds : List Int} {xs : List V} {m : Nat} {w : HO} {Q : VK} {E : XK} (c : OF H0 B [(a, ds.map V.int)] H) (h0 : H0 a = some w) (ok : DrOk ds) (hr : B q = some (.lst xs)) (hl : xs.length ≤ 600) (hm : m ≤ 10 ^ 36) (hx : IBs K B m xs)
    (k : ∀ (pf : Addr) (ys : List V) (ds' : List Int) (B' H2 : Hp), Ex B B' → OF H0 B' [(a, ds'.map V.int)] H2 → DrOk ds' → ys.length ≤ xs.length + 1 → IBs K B' (m + 100) ys → B' pf = some (.lst ys) → Q (.ref pf) H2) : sp_law_spoilt K ([.ref a, .ref q] ++ []) H Q E :=
  ⟨c.o.nod, a, q, ds, xs, m, rfl, c.o.atI 0 rfl, ok, c.o.ex _ _ hr, c.o.neB 0 rfl hr, hl, hm, fun x hx' => by
    obtain ⟨o, d, ib⟩ := hx x hx'
    exact ⟨o, d, ib.ex (own_del c.o 0 rfl)⟩, fun pf ys ds' B' H' e c' ok' hl' hv => by
    have c2 : OF H0 B' [(pf, ys), (a, ds'.map V.int)] H' := ⟨c'.o, fun b u h1 h2 => by
      cases h5 : H b with
      | none => exact c'.f b u h5 h2
      | some w' =>
        have hba : b ≠ a := fun z => by rw [z, h0] at h1; cases h1
        have h6 := c'.o.ex _ _ (e b w' (by rw [del_ne hba]; exact h5))
        rw [h2] at h6; cases h6
        exact c.f b u h1 h5⟩
    obtain ⟨B2, e2, c3, h3⟩ := c2.give
    exact k pf ys ds' B2 H' (ex_trans (ex_trans (own_del c.o 0 rfl) e) e2) c3 ok' hl' (hv.ex e2) h3⟩
end Px
set_option Elab.async false
set_option linter.all false
set_option maxRecDepth 100000
set_option maxHeartbeats 4000000
namespace Px
open PySem L2 MA
local macro_rules | `(tactic| bv_omega) => `(tactic| first | assumption | omega | exact cm (by omega) | exact cd (by omega) | exact cp (by omega) | exact trivial)
local macro_rules | `(tactic| array_get_dec) => `(tactic| first
  | assumption
  | exact sq_up
  | exact Own.sqi (by assumption) 0 (by rfl)
  | exact Own.sqi (by assumption) 1 (by rfl)
  | exact Own.sqi (by assumption) 2 (by rfl)
  | exact Own.sqi (by assumption) 3 (by rfl)
  | exact Own.sqi (by assumption) 4 (by rfl)
  | exact Own.sq (by assumption) (by assumption)
  | exact sq_new (by assumption) (by assumption))
local macro_rules | `(tactic| clean_wf) => `(tactic| first
  | with_reducible exact ev_c
  | (with_reducible apply ev_v') <;> rfl
  | (with_reducible apply ev_add) <;> clean_wf
  | (with_reducible apply ev_sub) <;> clean_wf
  | (with_reducible apply ev_mul) <;> clean_wf
  | (with_reducible apply ev_mod) <;> clean_wf
  | (with_reducible apply ev_div) <;> clean_wf
  | (with_reducible apply ev_pow) <;> clean_wf
  | (with_reducible apply ev_neg) <;> clean_wf
  | (with_reducible apply ev_lt) <;> clean_wf
  | (with_reducible apply ev_le) <;> clean_wf
  | (with_reducible apply ev_gt) <;> clean_wf
  | (with_reducible apply ev_ge) <;> clean_wf
  | (with_reducible apply ev_eqi) <;> clean_wf
  | (with_reducible apply ev_nei) <;> clean_wf
  | (with_reducible apply ev_len) <;> clean_wf
  | (with_reducible apply ev_ixL) <;> clean_wf
  | (with_reducible apply ev_min) <;> clean_wf
  | (with_reducible apply ev_max) <;> clean_wf
  | (with_reducible apply ev_abs) <;> clean_wf
  | (with_reducible apply ev_intB) <;> clean_wf
  | (with_reducible apply ea_1) <;> clean_wf
  | (with_reducible apply ea_2) <;> clean_wf
  | (with_reducible apply ea_3) <;> clean_wf
  | with_reducible exact ea_nil
  | (with_reducible apply ea_cons) <;> clean_wf
  | with_reducible exact el_nil
  | (with_reducible apply ep_lt) <;> clean_wf
  | (with_reducible apply ep_le) <;> clean_wf
  | (with_reducible apply ep_gt) <;> clean_wf
  | (with_reducible apply ep_ge) <;> clean_wf
  | (with_reducible apply ep_eqi) <;> clean_wf
  | (with_reducible apply ep_nei) <;> clean_wf
  | (with_reducible apply ep_not) <;> clean_wf
  | ((with_reducible apply ep_and) <;> first | (intro _; clean_wf; done) | clean_wf)
  | ((with_reducible apply ep_or) <;> first | (intro _; clean_wf; done) | clean_wf)
  | (with_reducible apply et_t) <;> clean_wf
  | (with_reducible apply eo_is) <;> clean_wf
  | with_reducible exact eo_no
  | array_get_dec
  | bv_omega
  | rfl
  | skip)
local macro_rules | `(tactic| symm_saturate) => `(tactic| first
  | ((with_reducible apply q_set); (focus (clean_wf; done)))
  | ((with_reducible apply s_set); (focus (clean_wf; done)))
  | ((with_reducible apply q_aug (hx := rfl)); (focus (clean_wf; done)))
  | ((with_reducible apply s_aug (hx := rfl)); (focus (clean_wf; done)))
  | ((with_reducible apply q_augC (hx := rfl)); (focus (clean_wf; done)))
  | ((with_reducible apply s_augC (hx := rfl)); (focus (clean_wf; done))))
local macro_rules | `(tactic| subst_eqs) => `(tactic| repeat' (first
  | with_reducible apply w_c
  | ((with_reducible apply w_v'); (focus rfl))
  | with_reducible apply w_op
  | with_reducible apply w_cb
  | with_reducible apply w_cons
  | with_reducible apply w_nil
  | with_reducible apply r_add
  | with_reducible apply r_sub
  | ((with_reducible apply r_mul); (focus (bv_omega; done)))
  | ((with_reducible apply r_div); (focus (bv_omega; done)))
  | ((with_reducible apply r_mod); (focus (bv_omega; done)))
  | ((with_reducible apply r_pow); (focus (bv_omega; done)))
  | with_reducible apply r_lt
  | with_reducible apply r_le
  | with_reducible apply r_gt
  | with_reducible apply r_ge
  | with_reducible apply r_min
  | with_reducible apply r_max
  | with_reducible apply r_intB
  | ((with_reducible apply r_len); (focus (array_get_dec; done)))
  | with_reducible apply w_callW
  | with_reducible apply q_setW
  | with_reducible apply s_setW
  | with_reducible apply s_retW))

abbrev rTupO (K : PySem.W.Frag) : List V → Hp → VK → Prop := fun xs H Q => ∃ p ys, xs = [.ref p] ∧ ((SqL K H p ys ∧ ∀ l, H l = none → Q (.ref l) (upd H l (.tup ys))) ∨ (SqT K H p ys ∧ Q (.ref p) H))
abbrev rDictP (K : PySem.W.Frag) : List V → Hp → VK → Prop := fun xs H Q => ∃ (a : Addr) (ps : List Addr) (kvs : List (Key × V)), xs = [.ref a] ∧ SqL K H a (ps.map V.ref) ∧ Paired (fun p kv => SqT K H p [kV kv.1, kv.2]) ps kvs ∧ ∀ p, H p = none → Q (.ref p) (upd H p (.dK (mergeK [] kvs)))
theorem paired38 {K : PySem.W.Frag} {H : Hp} : ∀ {as : List Addr} {qs : List (Int × Int)}, as.length = qs.length → (∀ (i : Nat) (b : Addr) (q : Int × Int), as[i]? = some b → qs[i]? = some q → H b = some (.tup (pvals q))) → Paired (fun p (kv : Key × V) => SqT K H p [kV kv.1, kv.2]) as (qs.map kvP)
  | [], [], _, _ => .nil
  | a :: as, q :: qs, hl, h => .cons (st_at (h 0 a q rfl rfl)) (paired38 (by simpa using hl) fun i b z h1 h2 => h (i + 1) b z (by simpa using h1) (by simpa using h2))
def sp_law_things (K : PySem.W.Frag) : Sp := fun vs H Q _ => Nod H ∧ ∃ (a r : Addr) (ds : List Int) (p : Nat) (rr : List Nat) (low high : Nat), vs = [.ref a, .ref r, .int (low : Int), .int (high : Int)] ∧ H a = some (.lst (ds.map V.int)) ∧ DrOk ds ∧ RowAt H r (p :: rr) ∧ r ≠ a ∧ rr.length ≤ 4 ∧ 0 < low ∧ low < 2 ^ 59 ∧ high < 2 ^ 59 ∧ (∀ h, h ≤ high → (allL rr h).length ≤ 598) ∧
  ∀ (px : Addr) (xs : List V) (ds' : List Int) (B' H' : Hp), Ex (del H a) B' → OF H B' [(a, ds'.map V.int)] H' → DrOk ds' → B' px = some (.lst xs) → (∀ x ∈ xs, Jd K B' x) → Q (.ref px) H'
/-- slots: draws row low high every bent found one -/
abbrev n_law_things : List Str := ["draws", "row", "low", "high", "every", "bent", "found", "one"]
def t_law_things (K : PySem.W.Frag) : TS := (sFg (tSeq (tAsg (tCall (sp_law_all K) [] E0 (tCons (tVar 1) (tCons (tVar 2) (tCons (tVar 3) tNil)))) (gName 4))
  (tSeq (tAsg (tCall (sp_law_spoilt K) [] E0 (tCons (tVar 0) (tCons (tVar 4) tNil))) (gName 5))
  (tSeq (tAsg (tLst (tCons (tVar 4) (tCons (tVar 5) (tCons (tCall (sp_law_spoilt K) [] E0 (tCons (tVar 0) (tCons (tVar 5) tNil))) (tCons (tCall (sp_law_spoilt K) [] E0 (tCons (tVar 0) (tCons (tVar 4) tNil))) (tCons (tLst tNil) (tCons (tSl (rSlL K) (tVar 4) tNoPart (tPart (tUn uNeg (tC (.int 1))))) (tCons (tOp rCat (tVar 4) (tLst (tCons (tTup (tCons (tOp oAdd (tVar 3) (tC (.int 1))) (tCons (tUn uNeg (tC (.int 1))) tNil))) tNil))) tNil)))))))) (gName 6))
  (tSeq (tAsg (tOp rCat (tVar 6) (tLst (tCons (tCall (sp_law_all K) [] E0 (tCons (tVar 1) (tCons (tCB cMax (tCons (tC (.int 1)) (tCons (tOp oSub (tVar 2) (tC (.int 1))) tNil))) (tCons (tVar 3) tNil)))) (tCons (tCall (sp_law_all K) [] E0 (tCons (tVar 1) (tCons (tOp oAdd (tVar 2) (tC (.int 1))) (tCons (tVar 3) tNil)))) tNil)))) (gName 6))
  (tSeq (tDrop (tBM K "list" rAppend (tVar 6) (tCons (tCall (sp_law_all K) [] E0 (tCons (tVar 1) (tCons (tVar 2) (tCons (tCB cMax (tCons (tC (.int 0)) (tCons (tOp oSub (tVar 3) (tC (.int 1))) tNil))) tNil)))) tNil)))
  (tSeq (tAsg (tOp rCat (tVar 6) (tLst (tCons (tRevL K (tVar 4)) (tCons (tCB (rTupO K) (tCons (tVar 4) tNil)) (tCons (tLst (tCons (tVar 4) tNil)) (tCons (tCB (rDictP K) (tCons (tVar 4) tNil)) (tCons (tCB (cStrQ K) (tCons (tVar 4) tNil)) (tCons (tLc (iList K (tVar 4)) (gName 7) tYes (tCB (cList K) (tCons (tVar 7) tNil)) [7]) tNil)))))))) (gName 6))
  (tRet (tOp rCat (tVar 6) (tLst (tCons (tC .non) (tCons (tC (.int 0)) (tCons (tC (.bl true)) (tCons (tC (.str (PySem.Str.ofString ""))) (tCons (tTup tNil) (tCons tDNewK (tCons (tLst (tCons (tLst tNil) tNil)) (tCons (tLst (tCons (tC .non) tNil)) (tCons (tLst (tCons (tTup (tCons (tC (.int 1)) tNil)) tNil)) (tCons (tLst (tCons (tTup (tCons (tC (.int 1)) (tCons (tC (.int 0)) tNil))) tNil)) (tCons (tLst (tCons (tTup (tCons (tC (.int 1)) (tCons (tUn uNeg (tC (.int 1))) tNil))) tNil)) tNil)))))))))))))))))))))
theorem r_law_things {K : PySem.W.Frag} {vs : List V} {H : Hp} {Q : VK} {E : XK} (h : sp_law_things K vs H Q E) : t_law_things K { nx := fun _ H' => Q .non H', rt := Q } (start n_law_things vs) H := by
  obtain ⟨nd, a, r, ds, p, rr, low, high, rfl, ha, ok, ra, hra, h4, hl0, hl1, hh1, hal, q⟩ := h
  have rb : RowAt (del H a) r (p :: rr) := ⟨by rw [del_ne hra]; exact ra.at_, ra.w, ra.ne⟩
  have c : OF H (del H a) [(a, ds.map V.int)] H := ⟨Own.enter ha, fun b u h0 h1 => by rw [h0] at h1; cases h1⟩
  have i0 : PapIn p rr low high := ⟨ra.w, h4, hl0, by omega, by omega⟩
  -- every
  refine fg_body (q_setW (w_callW (w_cons (w_v 1 (w_cons (w_v 2 (w_one (w_v 3 ?_))))))))
  refine c.allZ rb i0 fun pe as B1 H1 eB c pr => ?_
  have hle := every_le i0
  have hlen : (every p rr low high).length ≤ 598 := by rw [every_len]; exact hal _ (Nat.le_refl _)
  generalize every p rr low high = qs at pr hle hlen
  have hasl : (as.map V.ref).length = qs.length := by rw [List.length_map]; exact pr.len
  have ev : IBs K B1 (2 ^ 60) (as.map V.ref) := ibs_prs pr hle (by decide)
  have hle2 : ∀ q ∈ qs, q.1.natAbs < 10 ^ 38 ∧ q.2.natAbs < 10 ^ 38 := fun q hq => by
    have h1 := hle q hq
    have h2 : (2 : Nat) ^ 60 < 10 ^ 38 := by decide
    exact ⟨Nat.lt_of_le_of_lt h1.1 h2, Nat.lt_of_le_of_lt h1.2 h2⟩
  replace rb := rb.ex eB
  have js : ∀ v ∈ [V.ref pe], Jd K B1 v := fun v hv => by rw [List.mem_singleton.mp hv]; exact jd_ibs ev pr.lst (by omega)
  -- bent
  refine q_setW (w_callW (w_cons (w_v 0 (w_one (w_v 4 ?_)))))
  refine c.spoiltZ ha ok pr.lst (by omega) (by decide) ev fun pb bs ds B2 H2 e c ok hlb ib hpb => ?_
  replace pr := pr.ex e
  replace rb := rb.ex e
  replace ev := ev.ex e
  replace eB := ex_trans eB e
  replace js := jd_snoc (jds_ex js e) (jd_ibs ib hpb (by omega))
  clear e
  -- found: the two, spoilt
  refine q_setW (w_lst (w_cons (w_v 4 (w_cons (w_v 5 (w_cons (w_callW (w_cons (w_v 0 (w_one (w_v 5 ?_)))))))))))
  refine c.spoiltZ ha ok hpb (by omega) (by decide) ib fun p2 b2 ds B3 H3 e c ok hl2 ib2 hp2 => ?_
  replace pr := pr.ex e
  replace rb := rb.ex e
  replace ev := ev.ex e
  replace eB := ex_trans eB e
  replace js := jd_snoc (jds_ex js e) (jd_ibs ib2 hp2 (by omega))
  clear e ib hpb ib2 hp2 hl2 hlb
  refine w_cons (w_callW (w_cons (w_v 0 (w_one (w_v 4 ?_)))))
  refine c.spoiltZ ha ok pr.lst (by omega) (by decide) ev fun p3 b3 ds B4 H4 e c ok hl3 ib3 hp3 => ?_
  replace pr := pr.ex e
  replace rb := rb.ex e
  replace ev := ev.ex e
  replace eB := ex_trans eB e
  replace js := jd_snoc (jds_ex js e) (jd_ibs ib3 hp3 (by omega))
  clear e ib3 hp3 hl3
  refine w_cons (el_nil _ fun p5 hp5 => ?_)
  obtain ⟨B5, c, e, eB, js, _⟩ := jd_put (K := K) (u := .lst []) c hp5 trivial js eB (jd_ibs (m := 0) (xs := []) (fun x hx => (List.not_mem_nil hx).elim) upd_same (by simp))
  replace pr := pr.ex e
  replace rb := rb.ex e
  replace ev := ev.ex e
  clear e
  refine w_cons (w_evL (el_sl (ev_v 4) eo_no (eo_is (ev_neg ev_c)) (sq_at (c.b pr.lst))) fun p6 hp6 => ?_)
  have hcl := cut_lenG (as.map V.ref) none (some (-1))
  obtain ⟨B6, c, e, eB, js, _⟩ := jd_put (K := K) (u := .lst (cutV (as.map V.ref) none (some (-1)))) c hp6 trivial js eB (jd_ibs (ibs_sub (ev.ex (ex_new (c.noB hp6))) cut_memG) upd_same (by omega))
  replace pr := pr.ex e
  replace rb := rb.ex e
  replace ev := ev.ex e
  clear e
  refine w_one (w_op (w_v 4 (w_lst (w_one (w_tupW (ea_2 (ev_add (i := (high : Int)) (ev_v 3) ev_c) (ev_neg ev_c) _ ⟨by show 2 ≤ sizeLine; decide, fun t7 ht7 => ?_⟩))))))
  have e := ex_new (o := .tup (pvals ((high : Int) + 1, -1))) (c.noB ht7)
  replace c := c.base (u := .tup (pvals ((high : Int) + 1, -1))) ht7 trivial
  have f7 : (upd B6 t7 (.tup (pvals ((high : Int) + 1, -1)))) t7 = some (.tup (pvals ((high : Int) + 1, -1))) := upd_same
  generalize upd B6 t7 _ = B7 at c e f7
  replace pr := pr.ex e
  replace rb := rb.ex e
  replace ev := ev.ex e
  replace eB := ex_trans eB e
  replace js := jds_ex js e
  clear e
  have ib7 : IBs K B7 (2 ^ 60) [.ref t7] := fun x hx => by
    rw [List.mem_singleton.mp hx]
    exact ⟨_, _, ib_pair f7 ⟨by show ((high : Int) + 1).natAbs ≤ _; omega, by show (-1 : Int).natAbs ≤ _; decide⟩ (by decide)⟩
  refine ⟨by show 1 ≤ sizeLine; decide, fun p7 hp7 => ?_⟩
  have hc : OF H B7 [(p7, [.ref t7]), (a, ds.map V.int)] _ := c.new (xs := [.ref t7]) hp7
  refine ⟨pe, p7, as.map V.ref, [.ref t7], rfl, rfl, hc.b pr.lst, hc.o.atI 0 rfl, Nat.le_of_lt (szl (by rw [hasl]; simp; omega)), fun p8 hp8 => ?_⟩
  replace c : OF H B7 [(a, ds.map V.int)] _ := hc.sub ((List.Sublist.refl _).cons _)
  clear hc hp7
  obtain ⟨B8, c, e, eB, js, _⟩ := jd_put (K := K) (u := .lst (as.map V.ref ++ [.ref t7])) c hp8 trivial js eB (jd_ibs ((ibs_app ev ib7).ex (ex_new (c.noB hp8))) upd_same (by rw [List.length_append, hasl]; simp; omega))
  replace pr := pr.ex e
  replace rb := rb.ex e
  replace ev := ev.ex e
  clear e ib7 f7
  refine ⟨by show 7 ≤ sizeLine; decide, fun pF hpF => ?_⟩
  replace js : ∀ v ∈ [V.ref pe, .ref pb, .ref p2, .ref p3, .ref p5, .ref p6, .ref p8], Jd K B8 v := js
  obtain ⟨vs, hvs⟩ : ∃ vs : List V, vs = [V.ref pe, .ref pb, .ref p2, .ref p3, .ref p5, .ref p6, .ref p8] := ⟨_, rfl⟩
  have hvl : vs.length = 7 := by rw [hvs]; rfl
  rw [← hvs] at js ⊢
  clear hvs
  replace c : OF H B8 [(pF, vs), (a, ds.map V.int)] _ := c.new (xs := vs) hpF
  clear hpF hp8 ht7 hp6 hp5 hcl
  -- two more
  have i1 : PapIn p rr (max 1 (low - 1)) high := ⟨ra.w, h4, by omega, by omega, by omega⟩
  have i2 : PapIn p rr (low + 1) high := ⟨ra.w, h4, by omega, by omega, by omega⟩
  have i3 : PapIn p rr low (high - 1) := ⟨ra.w, h4, by omega, by omega, by omega⟩
  have jall : ∀ {B : Hp} {pf : Addr} {as : List Addr} {lo hi : Nat}, PapIn p rr lo hi → hi ≤ high → Prs B pf as (every p rr lo hi) → Jd K B (.ref pf) := fun {B pf as lo hi} i hh pr => jd_ibs (m := 2 ^ 60) (ibs_prs pr (every_le i) (by decide)) pr.lst (by rw [List.length_map, pr.len, every_len]; have := hal _ hh; omega)
  refine q_setW (w_op (w_v 6 (w_lst (w_cons (w_callW (w_cons (w_v 1 (w_cons (w_ev (ev_eq (y := .int ((max 1 (low - 1) : Nat) : Int)) (ev_max ev_c (ev_sub (i := (low : Int)) (ev_v 2) ev_c)) (congrArg V.int (by split <;> omega))) (w_one (w_v 3 ?_)))))))))))
  refine c.allZ rb i1 fun p9 a9 B9 H9 e c pr9 => ?_
  replace pr := pr.ex e
  replace rb := rb.ex e
  replace ev := ev.ex e
  replace eB := ex_trans eB e
  replace js := jd_snoc (jds_ex js e) (jall i1 (Nat.le_refl _) pr9)
  clear e pr9
  refine w_one (w_callW (w_cons (w_v 1 (w_cons (w_ev (ev_eq (y := .int ((low + 1 : Nat) : Int)) (ev_add (i := (low : Int)) (ev_v 2) ev_c) rfl) (w_one (w_v 3 ?_)))))))
  refine c.allZ rb i2 fun p10 a10 B10 H10 e c pr10 => ?_
  replace pr := pr.ex e
  replace rb := rb.ex e
  replace ev := ev.ex e
  replace eB := ex_trans eB e
  replace js := jd_snoc (jds_ex js e) (jall i2 (Nat.le_refl _) pr10)
  clear e pr10
  refine ⟨by show 2 ≤ sizeLine; decide, fun p11 hp11 => ?_⟩
  replace c := c.new (xs := [.ref p9, .ref p10]) hp11
  refine ⟨pF, p11, vs, [.ref p9, .ref p10], rfl, rfl, c.o.atI 1 rfl, c.o.atI 0 rfl, Nat.le_of_lt (szl (by rw [hvl]; simp)), fun pG hpG => ?_⟩
  rw [show vs ++ [.ref p9] ++ [.ref p10] = vs ++ [.ref p9, .ref p10] by simp] at js
  replace c : OF H B10 [(pG, vs ++ [.ref p9, .ref p10]), (a, ds.map V.int)] _ := (c.new (xs := vs ++ [.ref p9, .ref p10]) hpG).sub ((((List.Sublist.refl _).cons _).cons _).cons₂ _)
  replace hvl : (vs ++ [V.ref p9, .ref p10]).length = 9 := by rw [List.length_append, hvl]; rfl
  generalize vs ++ [V.ref p9, .ref p10] = vs at js c hvl ⊢
  clear hp11 hpG
  -- one more
  refine q_seq (s_dropW (w_appR (ev_v 6) (c.o.sqi 0 rfl) (w_one (w_callW (w_cons (w_v 1 (w_cons (w_v 2 (w_one (w_ev (ev_eq (y := .int ((high - 1 : Nat) : Int)) (ev_max ev_c (ev_sub (i := (high : Int)) (ev_v 3) ev_c)) (congrArg V.int (by split <;> omega))) ?_))))))))))
  refine c.allZ rb i3 fun p12 a12 B12 H12 e c pr12 => ?_
  replace pr := pr.ex e
  replace rb := rb.ex e
  replace ev := ev.ex e
  replace eB := ex_trans eB e
  replace js := jd_snoc (jds_ex js e) (jall i3 (by omega) pr12)
  clear e pr12
  refine ⟨pG, vs, _, rfl, rfl, c.o.atI 0 rfl, szl (by omega), ?_⟩
  replace c : OF H B12 [(pG, vs ++ [.ref p12]), (a, ds.map V.int)] _ := c.mut 0 rfl
  replace hvl : (vs ++ [V.ref p12]).length = 10 := by rw [List.length_append, hvl]; rfl
  generalize vs ++ [V.ref p12] = vs at js c hvl ⊢
  clear jall i0 i1 i2 i3
  dsimp only
  -- turned, as others
  refine q_setW (w_op (w_v 6 (w_lst (w_cons (w_revG (w_v 4 ⟨pe, as.map V.ref, rfl, sq_at (c.b pr.lst), fun p13 hp13 => ?_⟩))))))
  obtain ⟨B13, c, e, eB, js, _⟩ := jd_put (K := K) (u := .lst (as.map V.ref).reverse) c hp13 trivial js eB (jd_ibs (ibs_sub (ev.ex (ex_new (c.noB hp13))) fun y hy => List.mem_reverse.mp hy) upd_same (by rw [List.length_reverse]; omega))
  replace pr := pr.ex e
  clear e
  refine w_cons (w_cb (w_one (w_v 4 ⟨pe, as.map V.ref, rfl, .inl ⟨sq_at (c.b pr.lst), fun p14 hp14 => ?_⟩⟩)))
  have dqa : DqAll K B13 (as.map V.ref) (qs.map MU.pair) := prs_dqZ pr.len pr.tup
  have swa := swa_prsZ hle2
  obtain ⟨B14, c, e, eB, js, _⟩ := jd_put (K := K) (u := .tup (as.map V.ref)) c hp14 trivial js eB (jd_off (t := "tuple") (.inl (.base (.tup upd_same))) (by decide +kernel) (.tup (st_at upd_same) (dqa.ex (ex_new (c.noB hp14)))) (sw_tup swa) (by omega) (by omega) fun ds z => nomatch z)
  replace pr := pr.ex e
  replace dqa := dqa.ex e
  clear e
  refine w_cons (w_evL (el_lst (ea_1 (ev_v 4)) (by simp)) fun p15 hp15 => ?_)
  have e := ex_new (o := .lst [.ref pe]) (c.noB hp15)
  obtain ⟨B15, c, e, eB, js, _⟩ := jd_put (K := K) (u := .lst [.ref pe]) c hp15 trivial js eB (jd_one upd_same ⟨"list", .inl (.base (.lst (e _ _ pr.lst))), by decide +kernel⟩ (.lst (sq_at (e _ _ pr.lst)) (dqa.ex e)) ((sw_list swa).more (by omega) (by omega)) fun q z => nomatch z)
  replace pr := pr.ex e
  replace dqa := dqa.ex e
  clear e
  refine w_cons (w_cb (w_one (w_v 4 ⟨pe, as, qs.map kvP, rfl, sq_at (c.b pr.lst), paired38 pr.len (fun i b q h1 h2 => c.b (pr.tup i b q h1 h2)), fun p16 hp16 => ?_⟩)))
  obtain ⟨B16, c, e, eB, js, _⟩ := jd_put (K := K) (u := .dK (mergeK [] (qs.map kvP))) c hp16 trivial js eB (jd_dict upd_same hle2 (by omega))
  replace pr := pr.ex e
  replace dqa := dqa.ex e
  clear e
  have shl : Shn K B16 (.ref pe) (.list (qs.map MU.pair)) := shn (.lst (sq_at pr.lst) dqa) (sw_list swa) (by decide) (by omega)
  have shl2 := shl.ex c.o.ex
  refine w_cons (w_cb (w_one (w_v 4 ⟨pe, _, rfl, shl2.1, shl2.2.1, shl2.2.2.1, shl2.2.2.2, ?_⟩)))
  replace js := jd_snoc js (x := .str (PyData.list (qs.map MU.pair)).shown) (jd_off (t := "str") (.inl (.base (.str _))) (by decide +kernel) (.str _) (sw_ltext (by omega) hle2) (by omega) (by omega) fun ds z => nomatch z)
  generalize (PyData.list (qs.map MU.pair)).shown = tx at js ⊢
  clear shl shl2 dqa swa
  refine w_one (w_lcL (xs := as.map V.ref) (ev_v 4) (sq_at (c.b pr.lst)) (fun D j H' => ∃ (B' : Hp) (ys : List V), Ex B16 B' ∧ OF H B' [(D, ys), (pG, vs), (a, ds.map V.int)] H' ∧ ys.length = j ∧ IBs K B' (2 ^ 60) ys) (fun D hD => ⟨B16, [], ex_refl, c.new hD, rfl, fun x hx => (List.not_mem_nil hx).elim⟩) (fun D j H' hD hv => ?_) (fun _ => rfl) (fun D j x H' hD hx hv => ?_) fun D H' hD hv => ?_)
  · obtain ⟨B', ys, e, c, _⟩ := hv
    exact sq_at (c.b (e _ _ pr.lst))
  · obtain ⟨B', ys, e, c, hyl, iy⟩ := hv
    obtain ⟨b, q, hb, rfl, hq, hbt⟩ := (pr.ex e).get hx
    have hjl := (List.getElem?_eq_some_iff.mp hx).1
    refine et_yes _ (iteT (w_cb (w_one (w_v 7 ⟨b, pvals q, rfl, .inr (st_at (c.b hbt)), fun l hl => ?_⟩))))
    have e2 := ex_new (o := .lst (pvals q)) (c.noB hl)
    replace c := c.base (u := .lst (pvals q)) hl trivial
    refine ⟨ys, c.o.atI 0 rfl, szl (by omega), upd B' l (.lst (pvals q)), ys ++ [V.ref l], ex_trans e e2, c.mut (ys := ys ++ [V.ref l]) 0 rfl, by rw [List.length_append, hyl]; rfl, ibs_app (iy.ex e2) fun x hx => ?_⟩
    rw [List.mem_singleton.mp hx]
    have hq2 := hle2 q (List.mem_of_getElem? hq)
    exact ib_list (ns := [q.1, q.2]) upd_same (by simp) fun n hn => by
      simp only [List.mem_cons, List.not_mem_nil, or_false] at hn
      rcases hn with rfl | rfl
      · exact hq2.1
      · exact hq2.2
  clear c
  obtain ⟨B17, ys, e, c, hyl, iy⟩ := hv
  replace eB := ex_trans eB e
  replace js := jds_ex js e
  clear e pr ev rb
  obtain ⟨B18, e, c, hD18⟩ := c.give
  replace eB := ex_trans eB e
  replace js := jd_snoc (jds_ex js e) (jd_ibs (iy.ex e) hD18 (by omega))
  clear e iy hyl hD18
  refine ⟨by show 6 ≤ sizeLine; decide, fun p17 hp17 => ?_⟩
  replace c := c.new (xs := [.ref p13, .ref p14, .ref p15, .ref p16, .str tx, .ref D]) hp17
  refine ⟨pG, p17, vs, _, rfl, rfl, c.o.atI 1 rfl, c.o.atI 0 rfl, Nat.le_of_lt (szl (by rw [hvl]; simp)), fun pI hpI => ?_⟩
  simp only [List.append_assoc, List.cons_append, List.nil_append] at js
  replace c : OF H B18 [(pI, vs ++ [.ref p13, .ref p14, .ref p15, .ref p16, .str tx, .ref D]), (a, ds.map V.int)] _ := (c.new (xs := vs ++ [.ref p13, .ref p14, .ref p15, .ref p16, .str tx, .ref D]) hpI).sub ((((List.Sublist.refl _).cons _).cons _).cons₂ _)
  replace hvl : (vs ++ [V.ref p13, .ref p14, .ref p15, .ref p16, .str tx, .ref D]).length = 16 := by rw [List.length_append, hvl]; rfl
  generalize vs ++ [V.ref p13, .ref p14, .ref p15, .ref p16, .str tx, .ref D] = vs at js c hvl ⊢
  clear hp17 hpI
  -- the others
  refine s_retW (w_op (w_v 6 (w_lst (w_cons (w_c (w_cons (w_c (w_cons (w_c (w_cons (w_c (w_cons (w_tupW (ea_nil _ ⟨Nat.zero_le _, fun q1 hq1 => ?_⟩))))))))))))))
  replace js := jd_snoc js (x := .non) (jd_off (t := "NoneType") (.inl (.base .non)) (by decide +kernel) .non sw_non (by omega) (by omega) fun ds z => nomatch z)
  replace js := jd_snoc js (x := .int 0) (jd_off (t := "int") (.inl (.base (.int 0))) (by decide +kernel) (.int 0) (sw_int (by decide)) (by omega) (by omega) fun ds z => nomatch z)
  replace js := jd_snoc js (x := .bl true) (jd_off (t := "bool") (.inl (.base (.bl true))) (by decide +kernel) (.bl true) sw_bl (by omega) (by omega) fun ds z => nomatch z)
  replace js := jd_snoc js (x := .str (PySem.Str.ofString "")) (jd_off (t := "str") (.inl (.base (.str _))) (by decide +kernel) (.str _) (sw_str (sml_of "")) (by omega) (by decide) fun ds z => nomatch z)
  obtain ⟨B19, c, e, eB, js, _⟩ := jd_put (K := K) (u := .tup []) c hq1 trivial js eB (jd_off (t := "tuple") (.inl (.base (.tup upd_same))) (by decide +kernel) (.tup (st_at upd_same) .nil) (sw_tup (dep := 0) sw_nil) (by omega) (by omega) fun ds z => nomatch z)
  clear e
  refine w_cons (fun q2 hq2 => ?_)
  obtain ⟨B20, c, e, eB, js, _⟩ := jd_put (K := K) (u := .dK []) c hq2 trivial js eB (jd_off (t := "dict") (.inl (.base (.dK upd_same))) (by decide +kernel) (.dK (ps := []) upd_same .nil .nil) (sw_dict (dep := 0) swk_nil) (by omega) (by omega) fun ds z => nomatch z)
  clear e
  refine w_cons (w_lst (w_one (el_nil _ fun q3 hq3 => ⟨by show 1 ≤ sizeLine; decide, fun q4 hq4 => ?_⟩)))
  have e := ex_new (o := .lst []) (c.noB hq3)
  replace c := c.base (u := .lst []) hq3 trivial
  replace eB := ex_trans eB e
  replace js := jds_ex js e
  clear e
  obtain ⟨B21, c, e, eB, js, _⟩ := jd_put (K := K) (u := .lst [.ref q3]) c hq4 trivial js eB (jd_ibs (m := 0) (fun x hx => by
    rw [List.mem_singleton.mp hx]
    exact ib_list (ns := []) (ex_new (c.noB hq4) _ _ upd_same) (by simp) fun n hn => (List.not_mem_nil hn).elim) upd_same (by simp))
  clear e
  refine w_cons (w_evL (el_lst (ea_1 ev_c) (by simp)) fun q5 hq5 => ?_)
  obtain ⟨B22, c, e, eB, js, _⟩ := jd_put (K := K) (u := .lst [.non]) c hq5 trivial js eB (jd_ibs (m := 0) (fun x hx => by
    rw [List.mem_singleton.mp hx]
    exact ib_sc ⟨"NoneType", .inl (.base .non), by decide +kernel⟩ .non (sw_non.more (by omega) (by omega)) fun q z => nomatch z) upd_same (by simp))
  clear e
  refine w_cons (w_lst (w_one (w_tupW (ea_1 ev_c _ ⟨by show 1 ≤ sizeLine; decide, fun q6 hq6 => ⟨by show 1 ≤ sizeLine; decide, fun q7 hq7 => ?_⟩⟩))))
  have e := ex_new (o := .tup [.int 1]) (c.noB hq6)
  replace c := c.base (u := .tup [.int 1]) hq6 trivial
  replace eB := ex_trans eB e
  replace js := jds_ex js e
  clear e
  obtain ⟨B23, c, e, eB, js, _⟩ := jd_put (K := K) (u := .lst [.ref q6]) c hq7 trivial js eB (jd_ibs (m := 0) (fun x hx => by
    rw [List.mem_singleton.mp hx]
    exact ib_ints (ns := [1]) (ex_new (c.noB hq7) _ _ upd_same) (by simp) (by simp) fun n hn => by rw [List.mem_singleton.mp hn]; decide) upd_same (by simp))
  clear e
  refine w_cons (w_lst (w_one (w_tupW (ea_2 ev_c ev_c _ ⟨by show 2 ≤ sizeLine; decide, fun q8 hq8 => ⟨by show 1 ≤ sizeLine; decide, fun q9 hq9 => ?_⟩⟩))))
  have e := ex_new (o := .tup (pvals (1, 0))) (c.noB hq8)
  replace c := c.base (u := .tup (pvals (1, 0))) hq8 trivial
  replace eB := ex_trans eB e
  replace js := jds_ex js e
  clear e
  obtain ⟨B24, c, e, eB, js, _⟩ := jd_put (K := K) (u := .lst [.ref q8]) c hq9 trivial js eB (jd_ibs (m := 1) (fun x hx => by
    rw [List.mem_singleton.mp hx]
    exact ⟨_, _, ib_pair (q := (1, 0)) (ex_new (c.noB hq9) _ _ upd_same) (by decide) (by decide)⟩) upd_same (by simp))
  clear e
  refine w_one (w_lst (w_one (w_tupW (ea_2 ev_c (ev_neg ev_c) _ ⟨by show 2 ≤ sizeLine; decide, fun q10 hq10 => ⟨by show 1 ≤ sizeLine; decide, fun q11 hq11 => ?_⟩⟩))))
  have e := ex_new (o := .tup (pvals (1, -1))) (c.noB hq10)
  replace c := c.base (u := .tup (pvals (1, -1))) hq10 trivial
  replace eB := ex_trans eB e
  replace js := jds_ex js e
  clear e
  obtain ⟨B25, c, e, eB, js, _⟩ := jd_put (K := K) (u := .lst [.ref q10]) c hq11 trivial js eB (jd_ibs (m := 1) (fun x hx => by
    rw [List.mem_singleton.mp hx]
    exact ⟨_, _, ib_pair (q := (1, -1)) (ex_new (c.noB hq11) _ _ upd_same) (by decide) (by decide)⟩) upd_same (by simp))
  clear e
  simp only [List.append_assoc, List.cons_append, List.nil_append] at js
  refine ⟨by show 11 ≤ sizeLine; decide, fun q12 hq12 => ?_⟩
  obtain ⟨ws, hws⟩ : ∃ ws : List V, ws = [.non, .int 0, .bl true, .str (PySem.Str.ofString ""), .ref q1, .ref q2, .ref q4, .ref q5, .ref q7, .ref q9, .ref q11] := ⟨_, rfl⟩
  have hwl : ws.length = 11 := by rw [hws]; rfl
  rw [← hws] at js ⊢
  clear hws
  replace c : OF H B25 [(q12, ws), (pI, vs), (a, ds.map V.int)] _ := c.new (xs := ws) hq12
  refine ⟨pI, q12, vs, ws, rfl, rfl, c.o.atI 1 rfl, c.o.atI 0 rfl, Nat.le_of_lt (szl (by omega)), fun pz hpz => ?_⟩
  replace c : OF H B25 [(pz, vs ++ ws), (a, ds.map V.int)] _ := (c.new (xs := vs ++ ws) hpz).sub ((((List.Sublist.refl _).cons _).cons _).cons₂ _)
  obtain ⟨B26, e, c, hz⟩ := c.give
  exact ⟨_, fg_full c.o.nod ha (c.o.atI 0 rfl) (ex_trans (ex_trans eB e) c.o.ex) c.f, q pz (vs ++ ws) ds B26 _ (ex_trans eB e) c ok hz (jds_ex js e)⟩
end Px
set_option Elab.async false
set_option linter.all false
set_option maxRecDepth 100000
set_option maxHeartbeats 4000000
namespace Px
open PySem L2 MA
local macro_rules | `(tactic| bv_omega) => `(tactic| first | assumption | omega | exact cm (by omega) | exact cd (by omega) | exact cp (by omega) | exact trivial)
local macro_rules | `(tactic| array_get_dec) => `(tactic| first
  | assumption
  | exact sq_up
  | exact Own.sqi (by assumption) 0 (by rfl)
  | exact Own.sqi (by assumption) 1 (by rfl)
  | exact Own.sqi (by assumption) 2 (by rfl)
  | exact Own.sqi (by assumption) 3 (by rfl)
  | exact Own.sqi (by assumption) 4 (by rfl)
  | exact Own.sq (by assumption) (by assumption)
  | exact sq_new (by assumption) (by assumption))
local macro_rules | `(tactic| clean_wf) => `(tactic| first
  | with_reducible exact ev_c
  | (with_reducible apply ev_v') <;> rfl
  | (with_reducible apply ev_add) <;> clean_wf
  | (with_reducible apply ev_sub) <;> clean_wf
  | (with_reducible apply ev_mul) <;> clean_wf
  | (with_reducible apply ev_mod) <;> clean_wf
  | (with_reducible apply ev_div) <;> clean_wf
  | (with_reducible apply ev_pow) <;> clean_wf
  | (with_reducible apply ev_neg) <;> clean_wf
  | (with_reducible apply ev_lt) <;> clean_wf
  | (with_reducible apply ev_le) <;> clean_wf
  | (with_reducible apply ev_gt) <;> clean_wf
  | (with_reducible apply ev_ge) <;> clean_wf
  | (with_reducible apply ev_eqi) <;> clean_wf
  | (with_reducible apply ev_nei) <;> clean_wf
  | (with_reducible apply ev_len) <;> clean_wf
  | (with_reducible apply ev_ixL) <;> clean_wf
  | (with_reducible apply ev_min) <;> clean_wf
  | (with_reducible apply ev_max) <;> clean_wf
  | (with_reducible apply ev_abs) <;> clean_wf
  | (with_reducible apply ev_intB) <;> clean_wf
  | (with_reducible apply ea_1) <;> clean_wf
  | (with_reducible apply ea_2) <;> clean_wf
  | (with_reducible apply ea_3) <;> clean_wf
  | with_reducible exact ea_nil
  | (with_reducible apply ea_cons) <;> clean_wf
  | with_reducible exact el_nil
  | (with_reducible apply ep_lt) <;> clean_wf
  | (with_reducible apply ep_le) <;> clean_wf
  | (with_reducible apply ep_gt) <;> clean_wf
  | (with_reducible apply ep_ge) <;> clean_wf
  | (with_reducible apply ep_eqi) <;> clean_wf
  | (with_reducible apply ep_nei) <;> clean_wf
  | (with_reducible apply ep_not) <;> clean_wf
  | ((with_reducible apply ep_and) <;> first | (intro _; clean_wf; done) | clean_wf)
  | ((with_reducible apply ep_or) <;> first | (intro _; clean_wf; done) | clean_wf)
  | (with_reducible apply et_t) <;> clean_wf
  | (with_reducible apply eo_is) <;> clean_wf
  | with_reducible exact eo_no
  | array_get_dec
  | bv_omega
  | rfl
  | skip)
local macro_rules | `(tactic| symm_saturate) => `(tactic| first
  | ((with_reducible apply q_set); (focus (clean_wf; done)))
  | ((with_reducible apply s_set); (focus (clean_wf; done)))
  | ((with_reducible apply q_aug (hx := rfl)); (focus (clean_wf; done)))
  | ((with_reducible apply s_aug (hx := rfl)); (focus (clean_wf; done)))
  | ((with_reducible apply q_augC (hx := rfl)); (focus (clean_wf; done)))
  | ((with_reducible apply s_augC (hx := rfl)); (focus (clean_wf; done))))
local macro_rules | `(tactic| subst_eqs) => `(tactic| repeat' (first
  | with_reducible apply w_c
  | ((with_reducible apply w_v'); (focus rfl))
  | with_reducible apply w_op
  | with_reducible apply w_cb
  | with_reducible apply w_cons
  | with_reducible apply w_nil
  | with_reducible apply r_add
  | with_reducible apply r_sub
  | ((with_reducible apply r_mul); (focus (bv_omega; done)))
  | ((with_reducible apply r_div); (focus (bv_omega; done)))
  | ((with_reducible apply r_mod); (focus (bv_omega; done)))
  | ((with_reducible apply r_pow); (focus (bv_omega; done)))
  | with_reducible apply r_lt
  | with_reducible apply r_le
  | with_reducible apply r_gt
  | with_reducible apply r_ge
  | with_reducible apply r_min
  | with_reducible apply r_max
  | with_reducible apply r_intB
  | ((with_reducible apply r_len); (focus (array_get_dec; done)))
  | with_reducible apply w_callW
  | with_reducible apply q_setW
  | with_reducible apply s_setW
  | with_reducible apply s_retW))

/-! ### how many rests there are -/
theorem cnt_boxes38 : ∀ (row ks : List Nat) (b : Nat), Good row → row.length ≤ ks.length → (∀ j p k : Nat, row[j]? = some p → ks[j]? = some k → b < p ^ k) → (∀ k ∈ ks, 1 ≤ k) → cnt row b ≤ ks.foldr (· * ·) 1
  | [], ks, b, _, _, _, h => by
    refine Nat.le_trans cnt_nil ?_
    induction ks with
    | nil => simp
    | cons k ks ih =>
      rw [List.foldr_cons]
      exact Nat.mul_pos (h k List.mem_cons_self) (ih (Nat.zero_le _) (fun j p k h => by simp at h) fun k hk => h k (List.mem_cons_of_mem _ hk))
  | p :: r, [], b, _, hl, _, _ => by simp at hl
  | p :: r, k :: ks, b, g, hl, hb, hk => by
    have ih := cnt_boxes38 r ks b g.tail (by simpa using hl) (fun j p k h1 h2 => hb (j + 1) p k (by simpa using h1) (by simpa using h2)) fun k h => hk k (List.mem_cons_of_mem _ h)
    rw [List.foldr_cons, Nat.mul_comm]
    exact box1 g (Nat.le_refl p) (hb 0 p k rfl rfl) ih
theorem few38 {p0 : Nat} {rr : List Nat} (w : Rw (p0 :: rr)) (hl : rr.length ≤ 2) {h : Nat} (hh : h ≤ 10 ^ 12) : (allL rr h).length ≤ 598 := by
  refine Nat.le_trans (cnt_boxes38 rr [26, 18] h w.tail.good hl (fun j p k h1 h2 => ?_) fun k hk => ?_) (by decide)
  · have hp : QS.getD (j + 1) 0 ≤ p := w.at (j := j + 1) (by simpa using h1)
    match j, h2, hp with
    | 0, h2, hp =>
      cases h2
      exact Nat.lt_of_lt_of_le (Nat.lt_of_le_of_lt hh (by decide)) (Nat.pow_le_pow_left hp 26)
    | 1, h2, hp =>
      cases h2
      exact Nat.lt_of_lt_of_le (Nat.lt_of_le_of_lt hh (by decide)) (Nat.pow_le_pow_left hp 18)
    | j + 2, h2, hp => simp at h2
  · simp only [List.mem_cons, List.not_mem_nil, or_false] at hk
    rcases hk with rfl | rfl <;> decide
/-! ### two papers -/
theorem tn_153 : tn 2 1 5 = 3 := by
  have h1 := tn_ge (p := 2) (x := 1) (low := 5) (by omega) (by omega) (by omega)
  have h2 := tn_least (p := 2) (x := 1) (low := 5) (k := 3) (by omega) (by omega) (by omega) (by decide)
  generalize tn 2 1 5 = t at h1 h2
  rcases (by omega : t = 0 ∨ t = 1 ∨ t = 2 ∨ t = 3) with rfl | rfl | rfl | rfl
  · simp at h1
  · simp at h1
  · simp at h1
  · rfl
theorem tn_351 : tn 2 3 5 = 1 := by
  have h1 := tn_ge (p := 2) (x := 3) (low := 5) (by omega) (by omega) (by omega)
  have h2 := tn_least (p := 2) (x := 3) (low := 5) (k := 1) (by omega) (by omega) (by omega) (by decide)
  generalize tn 2 3 5 = t at h1 h2
  rcases (by omega : t = 0 ∨ t = 1) with rfl | rfl
  · simp at h1
  · rfl
theorem w23b : Rw [2, 3] := ⟨by decide, by decide, by decide⟩
theorem all_35 : allL [3] 5 = [1, 3] := allL_c w23b.tail.good (by decide) (by decide) (by decide +kernel)
theorem ppr_55 : ppr 2 [3] 5 5 = [(1, 2), (3, 0)] := by
  unfold ppr
  rw [if_neg (by omega), all_35, List.map_cons, List.map_cons, tn_153, tn_351]
  rfl
theorem ok_55 : PapOk 2 [3] 5 5 := (pap_iff w23b.good (by omega)).mpr fun x hx => by
  rw [all_35] at hx
  simp only [List.mem_cons, List.not_mem_nil, or_false] at hx
  rcases hx with rfl | rfl
  · rw [tn_153]; decide
  · rw [tn_351]; decide
theorem ppr_le {p : Nat} {r : List Nat} {low high : Nat} (i : PapIn p r low high) (hl : (allL r high).length ≤ 598) : (ppr p r low high).length ≤ 1001 ∧ ∀ q ∈ ppr p r low high, q.1.natAbs < 10 ^ 38 ∧ q.2.natAbs < 10 ^ 38 := by
  have h1 := every_le i
  have h2 := every_len (p := p) (r := r) (low := low) (high := high)
  have h3 : (2 : Nat) ^ 60 < 10 ^ 38 := by decide
  unfold ppr
  split
  · exact ⟨by simp, fun q hq => (List.not_mem_nil hq).elim⟩
  · unfold every at h1 h2
    exact ⟨by omega, fun q hq => ⟨Nat.lt_of_le_of_lt (h1 q hq).1 h3, Nat.lt_of_le_of_lt (h1 q hq).2 h3⟩⟩
/-! ### things that are no papers, and no items of papers -/
def Dep (K : PySem.W.Frag) (B : Hp) (v : V) : Prop := BadI K B v ∧ ∃ l, Pap K B v l ∧ ∀ qs : List (Int × Int), l ≠ some (qs.map some)
theorem Dep.ex {K : PySem.W.Frag} {B B' : Hp} {v : V} (h : Dep K B v) (e : Ex B B') : Dep K B' v := ⟨h.1.ex e, let ⟨l, h1, h2⟩ := h.2; ⟨l, h1.ex e, h2⟩⟩
theorem dps_ex {K : PySem.W.Frag} {B B' : Hp} {vs : List V} (h : ∀ v ∈ vs, Dep K B v) (e : Ex B B') : ∀ v ∈ vs, Dep K B' v := fun v hv => (h v hv).ex e
theorem dp_snoc {K : PySem.W.Frag} {B : Hp} {vs : List V} {x : V} (js : ∀ v ∈ vs, Dep K B v) (t : Dep K B x) : ∀ v ∈ vs ++ [x], Dep K B v := fun v hv => (List.mem_append.mp hv).elim (js v) fun z => by rw [List.mem_singleton.mp z]; exact t
section
variable {K : PySem.W.Frag} {B : Hp}
theorem dep_lst {t b : Addr} {ys : List V} (ht : B t = some (.lst [.ref b])) (hb : B b = some (.lst ys)) : Dep K B (.ref t) :=
  ⟨.inl ⟨"list", .inl (.base (.lst ht)), by decide +kernel⟩, some [none], ⟨t, [.ref b], rfl, ht, rfl, fun j x o hx ho => by
    match j, hx, ho with
    | 0, hx, ho => cases hx; cases ho; exact .inl ⟨"list", .inl (.base (.lst hb)), by decide +kernel⟩
    | j + 1, hx, ho => simp at hx⟩, fun qs z => by
    cases qs with
    | nil => simp at z
    | cons q r => simp at z⟩
theorem dep_ve {t : Addr} (ht : B t = some (veH t)) : Dep K B (.ref t) :=
  ⟨.inl ⟨"ValueError", .inr ⟨t, rfl, ht, rfl⟩, by decide +kernel⟩, none, ⟨"ValueError", .inr ⟨t, rfl, ht, rfl⟩, by decide +kernel⟩, fun qs z => nomatch z⟩
theorem npt_ve {t : Addr} (ht : B t = some (veH t)) : NoPt K B (.ref t) := .inl ⟨"ValueError", .inr ⟨t, rfl, ht, rfl⟩, by decide +kernel⟩
theorem npt_lst {t : Addr} {ys : List V} (ht : B t = some (.lst ys)) : NoPt K B (.ref t) := .inl ⟨"list", .inl (.base (.lst ht)), by decide +kernel⟩
theorem dep_two {t : Addr} {x y : V} (ht : B t = some (.tup [x, y])) (hx : (∃ i : Int, x = .int i) ∨ NoPt K B x) (hy : (∃ i : Int, y = .int i) ∨ NoPt K B y) (h : NoPt K B x ∨ NoPt K B y) : Dep K B (.ref t) :=
  ⟨.inr ⟨t, _, rfl, ht, .inr ⟨x, y, rfl, hx, hy, h⟩⟩, none, ⟨"tuple", .inl (.base (.tup ht)), by decide +kernel⟩, fun qs z => nomatch z⟩
theorem itms : ∀ {xs : List V}, (∀ x ∈ xs, ∃ o, Itm K B x o) → ∃ os : List (Option (Int × Int)), xs.length = os.length ∧ ∀ (j : Nat) (x : V) (o : Option (Int × Int)), xs[j]? = some x → os[j]? = some o → Itm K B x o
  | [], _ => ⟨[], rfl, fun j x o h => by simp at h⟩
  | x :: xs, h => by
    obtain ⟨os, h1, h2⟩ := itms fun y hy => h y (List.mem_cons_of_mem _ hy)
    obtain ⟨o, ho⟩ := h x List.mem_cons_self
    refine ⟨o :: os, by simp [h1], fun j y o' hy ho' => ?_⟩
    cases j with
    | zero => cases hy; cases ho'; exact ho
    | succ j => exact h2 j y o' (by simpa using hy) (by simpa using ho')
theorem itms_app {xs ys : List V} {os ps : List (Option (Int × Int))} (l1 : xs.length = os.length) (h1 : ∀ (j : Nat) (x : V) (o : Option (Int × Int)), xs[j]? = some x → os[j]? = some o → Itm K B x o) (h2 : ∀ (j : Nat) (x : V) (o : Option (Int × Int)), ys[j]? = some x → ps[j]? = some o → Itm K B x o) :
    ∀ (j : Nat) (x : V) (o : Option (Int × Int)), (xs ++ ys)[j]? = some x → (os ++ ps)[j]? = some o → Itm K B x o := fun j x o hx ho => by
  rcases Nat.lt_or_ge j xs.length with z | z
  · rw [List.getElem?_append_left z] at hx
    rw [List.getElem?_append_left (by omega)] at ho
    exact h1 j x o hx ho
  · rw [List.getElem?_append_right z] at hx
    rw [List.getElem?_append_right (by omega), ← l1] at ho
    exact h2 _ x o hx ho
/-- a list with a bad item -/
theorem pap_bad {a : Addr} {xs ys : List V} {x : V} (ha : B a = some (.lst (xs ++ [x] ++ ys))) (h1 : ∀ y ∈ xs, ∃ o, Itm K B y o) (hx : BadI K B x) (h2 : ∀ y ∈ ys, ∃ o, Itm K B y o) : ∃ os, Pap K B (.ref a) (some os) ∧ ∀ qs : List (Int × Int), some os ≠ some (qs.map some) := by
  obtain ⟨os, l1, g1⟩ := itms h1
  obtain ⟨ps, l2, g2⟩ := itms h2
  refine ⟨os ++ [none] ++ ps, ⟨a, _, rfl, ha, by simp [l1, l2], itms_app (by simp [l1]) (itms_app l1 g1 fun j y o hy ho => ?_) g2⟩, fun qs z => ?_⟩
  · match j, hy, ho with
    | 0, hy, ho => cases hy; cases ho; exact hx
    | j + 1, hy, ho => simp at hy
  · have z := Option.some.inj z
    have hm : (none : Option (Int × Int)) ∈ qs.map some := by rw [← z]; simp
    obtain ⟨q, _, hq⟩ := List.mem_map.mp hm
    cases hq
end
theorem of_self {H B : Hp} {L : List (Addr × List V)} (o : Own B L H) : OF H B L H := ⟨o, fun b u h0 h1 => by rw [h0] at h1; cases h1⟩
theorem judge38 {K : PySem.W.Frag} {H B : Hp} {r : Addr} {p : Nat} {rr : List Nat} {low high : Nat} {x : V} {Q : VK} {E : XK} (n : Nod H) (e : Ex B H) (ra : RowAt B r (p :: rr)) (i : PapIn p rr low high) (hf : (allL rr high).length ≤ 598) (j : Jd K B x) (q : Q (.bl true) H) : sp_law_judged K ([.ref r, .int (low : Int), .int (high : Int), x] ++ []) H Q E := by
  obtain ⟨l, d, j1, j2, j3, j4⟩ := j
  obtain ⟨h1, h2⟩ := ppr_le i hf
  have hlen := ra.w.le
  exact ⟨n, r, p, rr, low, high, x, l, d, _, rfl, ra.ex e, i, j1.ex e, (shn j2 j3 (by decide) (by omega)).ex e, j4, fun H' pk e2 hp => jd_kept ra.at_ hlen (fun y hy => by have := ra.w.ge hy; omega) j2 j3 H' pk (ex_trans e e2) hp, h1, h2, q⟩
/-! ### the law -/
def sp_law (K : PySem.W.Frag) : Sp := fun vs H Q _ => Nod H ∧ ∃ (a : Addr) (ns : List Int), vs = [.ref a] ∧ SqL K H a (ns.map V.int) ∧ ns.length ≤ 63 ∧ ∀ H', Q (.bl true) H'
/-- slots: script draws many row low high thing every at none deep -/
abbrev n_law : List Str := ["script", "draws", "many", "row", "low", "high", "thing", "every", "at", "none", "deep"]
def t_law (K : PySem.W.Frag) : TS := (sFg (tSeq (tAsg (tCall (sp_law_draws K) [] E0 (tCons (tVar 0) tNil)) (gName 1))
  (tSeq (tAsg (tC (.int 0)) (gName 2))
  (tSeq (tWhile (tOr (tTest (tOp oLt (tVar 2) (tC (.int 1)))) (tAnd (bFg (tTest (tOp (rNeD K) (tVar 1) (tLst tNil)))) (tTest (tOp oLt (tVar 2) (tC (.int 3)))))) (tSeq (tAsg (tCall (sp_law_row K) [] E0 (tCons (tVar 1) (tCons (tC (.int 3)) tNil))) (gName 3))
  (tSeq (tAsg (tCall (sp_law_gapM K) [] E0 (tCons (tVar 1) (tCons (tVar 3) (tCons (tOp (rIxL K) (tLst (tCons (tOp oPow (tC (.int 10)) (tC (.int 5))) (tCons (tOp oPow (tC (.int 10)) (tC (.int 12))) tNil))) (tCB cInt (tCons (tOp rEq (tCall (sp_law_take K) [] E0 (tCons (tVar 1) (tCons (tC (.int 8)) tNil))) (tC (.int 1))) tNil))) tNil)))) (gTup K 2 (gCons (gName 4) (gCons (gName 5) gNil))))
  (tSeq (tFor (iList K (tCall (sp_law_things K) [] E0 (tCons (tVar 1) (tCons (tVar 3) (tCons (tVar 4) (tCons (tVar 5) tNil)))))) (gName 6) (tIfS (tNot (tB (tCall (sp_law_judged K) [] E0 (tCons (tVar 3) (tCons (tVar 4) (tCons (tVar 5) (tCons (tVar 6) tNil))))))) (tRet (tC (.bl false))) tNext))
  (tSeq (tAsg (tCall (sp_law_all K) [] E0 (tCons (tVar 3) (tCons (tVar 4) (tCons (tVar 5) tNil)))) (gName 7))
  (tSeq (tAsg (tOp oMod (tCall (sp_law_take K) [] E0 (tCons (tVar 1) (tCons (tC (.int 1000)) tNil))) (tOp oAdd (tCB (cLen K) (tCons (tVar 7) tNil)) (tC (.int 1)))) (gName 8))
  (tSeq (tAsg tVE (gName 9))
  (tSeq (tFor (iList K (tLst (tCons (tCall (sp_law_deep K) [] E0 (tCons (tC (.int 3000)) tNil)) (tCons (tTup (tCons (tCall (sp_law_deep K) [] E0 (tCons (tC (.int 3000)) tNil)) (tCons (tC (.int 0)) tNil))) (tCons (tTup (tCons (tC (.int 1)) (tCons (tCall (sp_law_deep K) [] E0 (tCons (tC (.int 3000)) tNil)) tNil))) (tCons (tVar 9) (tCons (tTup (tCons (tVar 9) (tCons (tC (.int 0)) tNil))) (tCons (tTup (tCons (tC (.int 1)) (tCons (tVar 9) tNil))) tNil)))))))) (gName 10) (tSeq (tIfS (bFg (tTest (tOp rNotB (tCall (sp_is_paperZ K) [] E0 (tCons (tVar 3) (tCons (tVar 4) (tCons (tVar 5) (tCons (tOp rCat (tOp rCat (tSl (rSlL K) (tVar 7) tNoPart (tPart (tVar 8))) (tLst (tCons (tVar 10) tNil))) (tSl (rSlL K) (tVar 7) (tPart (tOp oAdd (tVar 8) (tC (.int 1)))) tNoPart)) tNil))))) (tC (.bl false))))) (tRet (tC (.bl false))) tNext)
  (tIfS (tTest (tOp rNotB (tCall (sp_is_paperZ K) [] E0 (tCons (tVar 3) (tCons (tVar 4) (tCons (tVar 5) (tCons (tVar 10) tNil))))) (tC (.bl false)))) (tRet (tC (.bl false))) tNext)))
  (tAsg (tOp oAdd (tVar 2) (tC (.int 1))) (gName 2))))))))))
  (tSeq (tIfS (bFg (tTest (tOp rNotB (tCall (sp_is_paperZ K) [] E0 (tCons (tLst (tCons (tC (.int 2)) (tCons (tC (.int 3)) tNil))) (tCons (tC (.int 5)) (tCons (tC (.int 5)) (tCons (tLst (tCons (tTup (tCons (tC (.int 1)) (tCons (tC (.int 2)) tNil))) (tCons (tTup (tCons (tC (.int 3)) (tCons (tC (.int 0)) tNil))) tNil))) tNil))))) (tC (.bl true))))) (tRet (tC (.bl false))) tNext)
  (tRet (tAndV (tCall (sp_law_judged K) [] E0 (tCons (tLst (tCons (tC (.int 2)) (tCons (tC (.int 3)) tNil))) (tCons (tC (.int 7)) (tCons (tC (.int 6)) (tCons (tLst tNil) tNil))))) (tCall (sp_law_judged K) [] E0 (tCons (tLst (tCons (tC (.int 2)) (tCons (tC (.int 3)) tNil))) (tCons (tC (.int 7)) (tCons (tC (.int 8)) (tCons (tLst (tCons (tTup (tCons (tC (.int 1)) (tCons (tC (.int 2)) tNil))) tNil)) tNil))))))))))))
open Classical in
theorem r_law {K : PySem.W.Frag} {vs : List V} {H : Hp} {Q : VK} {E : XK} (h : sp_law K vs H Q E) : t_law K { nx := fun _ H' => Q .non H', rt := Q } (start n_law vs) H := by
  obtain ⟨nd, a, ns, rfl, ha, hl, q⟩ := h
  refine fg_body (q_setW (w_call (ea_1 (ev_v 0)) ⟨nd, a, ns, rfl, ha, hl, fun p ds0 hp ok0 => q_set ev_c ?_⟩))
  have o : Own H [(p, ds0.map V.int)] _ := Own.nil.new hp
  refine q_while (fun m σ' H' => ∃ (ds : List Int) (c : Nat) (y3 y4 y5 y6 y7 y8 y9 y10 : Option V), σ' = [some (.ref a), some (.ref p), some (.int (c : Int)), y3, y4, y5, y6, y7, y8, y9, y10] ∧ DrOk ds ∧ Own H [(p, ds.map V.int)] H' ∧ m = 4 - c ∧ c ≤ 3) 4 ⟨ds0, 0, none, none, none, none, none, none, none, none, rfl, ok0, o, rfl, by omega⟩ (fun m σ' H' hw => ?_)
  clear o
  obtain ⟨ds, c, y3, y4, y5, y6, y7, y8, y9, y10, rfl, ok, o, rfl, hc⟩ := hw
  have n1 := o.nod
  refine ⟨_, et_or (et_t (ev_lt (i := (c : Int)) (ev_v 2) ev_c)) fun _ => et_and (et_nonil (ns := ds) (o.sqi 0 rfl) (ev_v 1)) fun _ => et_t (ev_lt (i := (c : Int)) (ev_v 2) ev_c), fun hb => ?_, fun hb => ?_⟩
  · have hc3 : c < 3 := by
      rw [Bool.or_eq_true, Bool.and_eq_true, decide_eq_true_eq, decide_eq_true_eq] at hb
      rcases hb with hb | hb
      · omega
      · omega
    refine q_setW (w_callW (w_cons (w_v 1 (w_one (w_c ?_)))))
    refine o.rowC (m := 3) 0 rfl ok (by omega) fun pr row ds H2 w hne hl3 ok o => ?_
    replace o : Own H [(pr, zv row), (p, ds.map V.int)] H2 := o
    obtain ⟨p0, rr, rfl⟩ := List.exists_cons_of_ne_nil hne
    obtain ⟨B, eB, o, hrB⟩ := o.give
    have ra : RowAt B pr (p0 :: rr) := ⟨hrB, w, hne⟩
    have hrp : pr ≠ p := o.neB 0 rfl hrB
    have hr2 : rr.length ≤ 2 := by simp at hl3; omega
    -- low, high
    refine q_asg (w_callW (w_cons (w_v 1 (w_cons (w_v 3 (w_one (w_op (w_evL (el_lst (ea_2 (ev_pow ev_c ev_c (cp (by decide))) (ev_pow ev_c ev_c (cp (by decide)))) (by simp)) fun pl hpl => w_cb (w_one (w_op (w_callW (w_cons (w_v 1 (w_one (w_c ?_)))))))))))))))
    replace o := o.new (xs := [.int ((10 : Int) ^ (5 : Int).toNat), .int ((10 : Int) ^ (12 : Int).toNat)]) hpl
    refine o.take 1 rfl ok (by omega) fun t8 ds H3 ht8 ok o => ⟨rfl, r_intB ?_⟩
    replace o : Own B [(pl, [.int ((10 : Int) ^ (5 : Int).toNat), .int ((10 : Int) ^ (12 : Int).toNat)]), (p, ds.map V.int)] H3 := o
    obtain ⟨m, hm, hm1, hm2⟩ : ∃ m : Nat, atI [V.int ((10 : Int) ^ (5 : Int).toNat), .int ((10 : Int) ^ (12 : Int).toNat)] (if decide (V.int t8 = V.int 1) = true then 1 else 0) = some (.int (m : Int)) ∧ 1 ≤ m ∧ m ≤ 10 ^ 12 := by
      by_cases h : V.int t8 = V.int 1
      · rw [decide_eq_true h]; exact ⟨1000000000000, rfl, by omega, by omega⟩
      · rw [decide_eq_false h]; exact ⟨100000, rfl, by omega, by omega⟩
    refine r_ix (o.sqi 0 rfl) hm ?_
    replace o : Own B [(p, ds.map V.int)] H3 := o.drop1
    refine o.gapM 0 rfl ok (ra.ex o.ex).sq hrp w hne (by simp at hl3 ⊢; omega) ⟨hm1, hm2⟩ fun t low high ds H4 h1 h2 h3 ok ht o => ?_
    replace o : Own B [(p, ds.map V.int)] H4 := o
    refine g_pair ht ?_
    dsimp only
    have pin : PapIn p0 rr low high := ⟨w, by omega, h1, by omega, by omega⟩
    have hf : ∀ h, h ≤ high → (allL rr h).length ≤ 598 := fun h hh => few38 w hr2 (by omega)
    have hf0 := hf high (Nat.le_refl _)
    clear hm ht ht8 hpl
    -- the things
    refine q_oneI (fun σ' H' => ∃ (B5 : Hp) (ds : List Int) (y6 : Option V), σ' = [some (.ref a), some (.ref p), some (.int (c : Int)), some (.ref pr), some (.int (low : Int)), some (.int (high : Int)), y6, y7, y8, y9, y10] ∧ DrOk ds ∧ Own B5 [(p, ds.map V.int)] H' ∧ Ex B B5) (fun N hN => ?_) fun σ' H' hv => ?_
    · refine w_forL (w_callW (w_cons (w_v 1 (w_cons (w_v 3 (w_cons (w_v 4 (w_one (w_v 5 ⟨o.nod, p, pr, ds, p0, rr, low, high, rfl, o.atI 0 rfl, ok, ra.ex o.ex, hrp, by omega, h1, h2, by omega, hf, fun px xs ds B6 H6 e6 c6 ok hx6 js => ?_⟩)))))))))
      have eB6 : Ex B B6 := ex_trans (own_del o 0 rfl) e6
      have o6 := c6.o
      have n6 := o6.nod
      refine ⟨px, rfl, ⟨_, sq_at (o6.ex _ _ hx6)⟩, lp_list (xs := xs) (fun i σ' H' => (∃ y6, σ' = [some (.ref a), some (.ref p), some (.int (c : Int)), some (.ref pr), some (.int (low : Int)), some (.int (high : Int)), y6, y7, y8, y9, y10]) ∧ H' = H6) ⟨⟨_, rfl⟩, rfl⟩ (fun i σ' H' _ hv => by obtain ⟨_, rfl⟩ := hv; exact sq_at (o6.ex _ _ hx6)) (fun i x σ' H' hi hv => ?_) fun σ' H' hv => ?_⟩
      · obtain ⟨⟨y6, rfl⟩, rfl⟩ := hv
        exact s_ifW (w_not (w_B (w_callW (w_cons (w_v 3 (w_cons (w_v 4 (w_cons (w_v 5 (w_one (w_v 6 (judge38 n6 o6.ex (ra.ex eB6) pin hf0 (js x (List.mem_of_getElem? hi)) ⟨true, rfl, iteF (w_next ⟨⟨_, rfl⟩, rfl⟩)⟩))))))))))))
      · obtain ⟨⟨y6, rfl⟩, rfl⟩ := hv
        exact hN _ _ ⟨B6, ds, _, rfl, ok, o6, eB6⟩
    clear o ok
    obtain ⟨B5, ds, y6, rfl, ok, o, e5⟩ := hv
    replace ra := ra.ex e5
    replace eB := ex_trans eB e5
    clear e5
    -- every
    refine q_setW (w_callW (w_cons (w_v 3 (w_cons (w_v 4 (w_one (w_v 5 ?_)))))))
    refine (of_self o).allZ ra pin fun pe as B7 H7 e7 c7 pr7 => ?_
    replace ra := ra.ex e7
    replace eB := ex_trans eB e7
    clear e7 o
    have hle := every_le pin
    have hlen : (every p0 rr low high).length ≤ 598 := by rw [every_len]; exact hf0
    generalize every p0 rr low high = qs at pr7 hle hlen
    have hasl : (as.map V.ref).length = qs.length := by rw [List.length_map]; exact pr7.len
    have ev : IBs K B7 (2 ^ 60) (as.map V.ref) := ibs_prs pr7 hle (by decide)
    have hpe := pr7.lst
    generalize as.map V.ref = es at hasl ev hpe
    clear pr7 hle
    -- at
    refine q_setW (w_op (w_callW (w_cons (w_v 1 (w_one (w_c ?_))))))
    refine c7.takeZ 0 rfl ok (by omega) fun t0 ds H8 ht0 ok c8 => ?_
    have o : Own B7 [(p, ds.map V.int)] H8 := c8.o
    refine w_ev (ev_eq (y := .int ((es.length + 1 : Nat) : Int)) (ev_add (i := (es.length : Int)) (ev_len (ev_v 7) (sq_at (o.ex _ _ hpe))) ev_c) (by rfl)) (r_mod (by omega) ?_)
    obtain ⟨k, hk, hkl⟩ : ∃ k : Nat, t0 % ((es.length + 1 : Nat) : Int) = (k : Int) ∧ k ≤ es.length := ⟨(t0 % ((es.length + 1 : Nat) : Int)).toNat, by have := Int.emod_nonneg t0 (b := ((es.length + 1 : Nat) : Int)) (by omega); omega, by
      have h1 := Int.emod_nonneg t0 (b := ((es.length + 1 : Nat) : Int)) (by omega)
      have h2 := Int.emod_lt_of_pos t0 (b := ((es.length + 1 : Nat) : Int)) (by omega)
      omega⟩
    rw [hk]
    clear c7 c8 hk ht0
    -- none
    refine q_setW (fun pn hpn => ?_)
    have e := ex_new (o := veH pn) (ex_none o.ex hpn)
    have nv : Nod (upd H8 pn (veH pn)) := nod_upd o.nod trivial
    replace o := o.newB (u := veH pn) hpn nv
    have hpn2 : upd B7 pn (veH pn) pn = some (veH pn) := upd_same
    replace ra := ra.ex e
    replace eB := ex_trans eB e
    replace ev := ev.ex e
    replace hpe := e _ _ hpe
    generalize upd B7 pn (veH pn) = B8 at o hpn2 ra eB ev hpe
    generalize upd H8 pn (veH pn) = H8 at o nv ⊢
    clear e hpn
    -- the deep ones
    refine q_oneI (fun σ' H' => ∃ (y10 : Option V), σ' = [some (.ref a), some (.ref p), some (.int (c : Int)), some (.ref pr), some (.int (low : Int)), some (.int (high : Int)), y6, some (.ref pe), some (.int (k : Int)), some (.ref pn), y10] ∧ Own B8 [(p, ds.map V.int)] H') (fun N hN => ?_) fun σ' H' hv => ?_
    · refine w_forL (w_lst (w_cons (w_callW (w_one (w_c ⟨nv, 3000, rfl, by omega, by omega, fun t1 b1 ys1 H9 n9 e9 ht1 hb1 => ?_⟩)))))
      replace o := o.any e9 n9
      have js : ∀ v ∈ [V.ref t1], Dep K H9 v := fun v hv => by rw [List.mem_singleton.mp hv]; exact dep_lst ht1 hb1
      refine w_cons (w_tupW (w_cons (w_callW (w_one (w_c ⟨n9, 3000, rfl, by omega, by omega, fun t2 b2 ys2 H10 n10 e10 ht2 hb2 => w_one (w_c ⟨by show 2 ≤ sizeLine; decide, fun u2 hu2 => ?_⟩)⟩)))))
      have e11 := ex_new (o := .tup [.ref t2, .int 0]) hu2
      have n11 : Nod (upd H10 u2 (.tup [.ref t2, .int 0])) := nod_upd n10 trivial
      replace o := (o.any e10 n10).any e11 n11
      replace js := dp_snoc (dps_ex js (ex_trans e10 e11)) (dep_two (x := .ref t2) (y := .int 0) upd_same (.inr (npt_lst (e11 _ _ ht2))) (.inl ⟨_, rfl⟩) (.inl (npt_lst (e11 _ _ ht2))))
      clear e9 e10 ht1 hb1 n9 n10
      generalize upd H10 u2 (.tup [.ref t2, .int 0]) = H11 at e11 n11 o js ⊢
      clear e11 hu2 hb2 ht2
      refine w_cons (w_tupW (w_cons (w_c (w_one (w_callW (w_one (w_c ⟨n11, 3000, rfl, by omega, by omega, fun t3 b3 ys3 H12 n12 e12 ht3 hb3 => ⟨by show 2 ≤ sizeLine; decide, fun u3 hu3 => ?_⟩⟩)))))))
      have e13 := ex_new (o := .tup [.int 1, .ref t3]) hu3
      have n13 : Nod (upd H12 u3 (.tup [.int 1, .ref t3])) := nod_upd n12 trivial
      replace o := (o.any e12 n12).any e13 n13
      replace js := dp_snoc (dps_ex js (ex_trans e12 e13)) (dep_two (x := .int 1) (y := .ref t3) upd_same (.inl ⟨_, rfl⟩) (.inr (npt_lst (e13 _ _ ht3))) (.inr (npt_lst (e13 _ _ ht3))))
      clear e12 n12 n11
      generalize upd H12 u3 (.tup [.int 1, .ref t3]) = H13 at e13 n13 o js ⊢
      clear e13 hu3 hb3 ht3
      refine w_cons (w_v 9 ?_)
      replace js := dp_snoc js (dep_ve (o.ex _ _ hpn2))
      refine w_cons (w_tupW (ea_2 (ev_v 9) ev_c _ ⟨by show 2 ≤ sizeLine; decide, fun u4 hu4 => ?_⟩))
      have e14 := ex_new (o := .tup [.ref pn, .int 0]) hu4
      have n14 : Nod (upd H13 u4 (.tup [.ref pn, .int 0])) := nod_upd n13 trivial
      replace o := o.any e14 n14
      replace js := dp_snoc (dps_ex js e14) (dep_two (x := .ref pn) (y := .int 0) upd_same (.inr (npt_ve (o.ex _ _ hpn2))) (.inl ⟨_, rfl⟩) (.inl (npt_ve (o.ex _ _ hpn2))))
      generalize upd H13 u4 (.tup [.ref pn, .int 0]) = H14 at e14 n14 o js ⊢
      clear e14 hu4 n13
      refine w_one (w_tupW (ea_2 ev_c (ev_v 9) _ ⟨by show 2 ≤ sizeLine; decide, fun u5 hu5 => ?_⟩))
      have e15 := ex_new (o := .tup [.int 1, .ref pn]) hu5
      have n15 : Nod (upd H14 u5 (.tup [.int 1, .ref pn])) := nod_upd n14 trivial
      replace o := o.any e15 n15
      replace js := dp_snoc (dps_ex js e15) (dep_two (x := .int 1) (y := .ref pn) upd_same (.inl ⟨_, rfl⟩) (.inr (npt_ve (o.ex _ _ hpn2))) (.inr (npt_ve (o.ex _ _ hpn2))))
      generalize upd H14 u5 (.tup [.int 1, .ref pn]) = H15 at e15 n15 o js ⊢
      clear e15 hu5 n14
      simp only [List.append_assoc, List.cons_append, List.nil_append] at js
      refine ⟨by show 6 ≤ sizeLine; decide, fun pd hpd => ?_⟩
      generalize [V.ref t1, .ref u2, .ref u3, .ref pn, .ref u4, .ref u5] = vs at js ⊢
      have e16 := ex_new (o := .lst vs) hpd
      have n16 : Nod (upd H15 pd (.lst vs)) := nod_upd n15 trivial
      replace o := o.any e16 n16
      replace js := dps_ex js e16
      have hpd2 : upd H15 pd (.lst vs) pd = some (.lst vs) := upd_same
      generalize upd H15 pd (.lst vs) = H16 at e16 n16 o js hpd2 ⊢
      clear e16 hpd n15
      replace ra := ra.ex o.ex
      replace ev := ev.ex o.ex
      replace hpe := o.ex _ _ hpe
      refine ⟨pd, rfl, ⟨_, sq_at hpd2⟩, lp_list (xs := vs) (fun i σ' H' => (∃ y10, σ' = [some (.ref a), some (.ref p), some (.int (c : Int)), some (.ref pr), some (.int (low : Int)), some (.int (high : Int)), y6, some (.ref pe), some (.int (k : Int)), some (.ref pn), y10]) ∧ H' = H16) ⟨⟨_, rfl⟩, rfl⟩ (fun i σ' H' _ hv => by obtain ⟨_, rfl⟩ := hv; exact sq_at hpd2) (fun i x σ' H' hi hv => ?_) fun σ' H' hv => ?_⟩
      · obtain ⟨⟨y10, rfl⟩, rfl⟩ := hv
        obtain ⟨bad, l, pl, nl⟩ := js x (List.mem_of_getElem? hi)
        refine q_when (b := false) (et_fg fun Q q => ?_) (fun z => nomatch z) fun _ => ?_
        · have c9 : OF H' H' [] H' := of_self Own.nil
          have hto : ∀ j : Nat, (cutV es none (some (j : Int))).length = min j es.length := fun j => by rw [cut_toG, List.length_take]
          have hfr : ∀ j : Nat, (cutV es (some (j : Int)) none).length = es.length - j := fun j => by rw [cut_fromG, List.length_drop]
          refine w_tst (w_op (w_callW (w_cons (w_v 3 (w_cons (w_v 4 (w_cons (w_v 5 (w_one (w_op (w_op (w_slZ c9 hpe (ev_v 7) eo_no (eo_is (ev_v 8)) fun p1 H17 c => w_lsZ c (ea_1 (ev_v 10)) (by simp) fun p2 H18 c => w_catZ c 1 0 rfl rfl (by rw [hto]; simp; omega) fun p3 H19 c =>
            w_slZ c hpe (ev_v 7) (eo_is (ev_eq (y := .int ((k + 1 : Nat) : Int)) (ev_add (i := (k : Int)) (ev_v 8) ev_c) rfl)) eo_no fun p4 H20 c => w_catZ c 1 0 rfl rfl (by rw [List.length_append, hto, hfr]; simp; omega) fun p5 H21 c => ?_))))))))))))
          have e21 := c.o.ex
          have itm : ∀ (v : V), v ∈ es → ∃ o, Itm K H21 v o := fun v hv => by
            obtain ⟨o', d', ib⟩ := ev v hv
            exact ⟨o', ib.it.ex e21⟩
          obtain ⟨os, po, no⟩ := pap_bad (K := K) (c.o.atI 0 rfl) (fun y hy => itm y (cut_memG y hy)) (bad.ex e21) (fun y hy => itm y (cut_memG y hy))
          refine ⟨c.o.nod, pr, p0, rr, low, high, .ref p5, some os, rfl, ra.ex e21, pin, po, ?_⟩
          have ef : decide (PapOk p0 rr low high ∧ some os = some ((ppr p0 rr low high).map some)) = false := decide_eq_false fun z => no _ z.2
          rw [ef]
          exact w_c ⟨_, _, rfl, rfl, _, rfl, q _ e21⟩
        · have ef : decide (PapOk p0 rr low high ∧ l = some ((ppr p0 rr low high).map some)) = false := decide_eq_false fun z => nl _ z.2
          refine s_when (b := false) (et_eq (et_t (ev_notB (a := false) (b := false) (ev_call (ea_cons (ev_v 3) (ea_3 (ev_v 4) (ev_v 5) (ev_v 10))) fun Q q => ⟨n16, pr, p0, rr, low, high, x, l, rfl, ra, pin, pl, by rw [ef]; exact q⟩) ev_c)) rfl) (fun z => nomatch z) fun _ => ⟨⟨_, rfl⟩, rfl⟩
      · obtain ⟨⟨y10, rfl⟩, rfl⟩ := hv
        exact hN _ _ ⟨_, rfl, o⟩
    clear o nv
    obtain ⟨y10, rfl, o⟩ := hv
    exact s_set (ev_add (i := (c : Int)) (ev_v 2) ev_c) ⟨4 - (c + 1), by omega, ds, c + 1, _, _, _, _, _, _, _, _, rfl, ok, o.low eB, rfl, by omega⟩
  · have g23 : Good [2, 3] := w23b.good
    have few : ∀ h, h ≤ 100 → (allL [3] h).length ≤ 598 := fun h hh => few38 w23b (by decide) (by omega)
    have pi : ∀ {low high : Nat}, 0 < low → low < 1000 → high < 1000 → PapIn 2 [3] low high := fun h2 h3 h4 => ⟨w23b, by decide, h2, by omega, by omega⟩
    refine q_when (b := false) (et_fg fun Q q => ?_) (fun z => nomatch z) fun _ => ?_
    · have c9 : OF H' H' [] H' := of_self Own.nil
      refine w_tst (w_op (w_callW (w_cons (w_evL (el_lst (vs := zv [2, 3]) (ea_2 ev_c ev_c) (by decide)) fun p1 hp1 => w_cons (w_c (w_cons (w_c (w_one (w_lst (w_cons (w_tupW (ea_2 ev_c ev_c _ ⟨by show 2 ≤ sizeLine; decide, fun u1 hu1 => ?_⟩))))))))))))
      have e1 := ex_new (o := .lst (zv [2, 3])) (c9.noB hp1)
      replace c9 := c9.base (u := .lst (zv [2, 3])) hp1 trivial
      have f1 : upd H' p1 (.lst (zv [2, 3])) p1 = some (.lst (zv [2, 3])) := upd_same
      generalize upd H' p1 (.lst (zv [2, 3])) = B1 at c9 f1 e1 hu1 ⊢
      have e2 := ex_new (o := .tup (pvals (1, 2))) (c9.noB hu1)
      replace c9 := c9.base (u := .tup (pvals (1, 2))) hu1 trivial
      have f2 : upd B1 u1 (.tup (pvals (1, 2))) u1 = some (.tup (pvals (1, 2))) := upd_same
      replace f1 := e2 _ _ f1
      refine w_one (w_tupW (ea_2 ev_c ev_c _ ⟨by show 2 ≤ sizeLine; decide, fun u2 hu2 => ⟨by show 2 ≤ sizeLine; decide, fun p3 hp3 => ?_⟩⟩))
      have e3 := ex_new (o := .tup (pvals (3, 0))) (c9.noB hu2)
      replace c9 := c9.base (u := .tup (pvals (3, 0))) hu2 trivial
      have e4 := ex_new (o := .lst [.ref u1, .ref u2]) (c9.noB hp3)
      replace c9 := c9.base (u := .lst [.ref u1, .ref u2]) hp3 trivial
      refine ⟨c9.o.nod, p1, 2, [3], 5, 5, .ref p3, some [some (1, 2), some (3, 0)], rfl, ⟨e4 _ _ (e3 _ _ f1), w23b, by decide⟩, pi (by omega) (by omega) (by omega), ⟨p3, [.ref u1, .ref u2], rfl, upd_same, rfl, fun j x o' hx ho => ?_⟩, ?_⟩
      · match j, hx, ho with
        | 0, hx, ho => cases hx; cases ho; exact ⟨u1, rfl, e4 _ _ (e3 _ _ f2)⟩
        | 1, hx, ho => cases hx; cases ho; exact ⟨u2, rfl, e4 _ _ upd_same⟩
        | j + 2, hx, ho => simp at hx
      · have et : decide (PapOk 2 [3] 5 5 ∧ some [some ((1 : Int), (2 : Int)), some (3, 0)] = some ((ppr 2 [3] 5 5).map some)) = true := decide_eq_true ⟨ok_55, by rw [ppr_55]; rfl⟩
        rw [et]
        exact w_c ⟨_, _, rfl, rfl, _, rfl, q _ (ex_trans e1 (ex_trans e2 (ex_trans e3 e4)))⟩
    have c9 : OF H' H' [] H' := of_self Own.nil
    refine s_retW (w_andV (w_callW (w_cons (w_evL (el_lst (vs := zv [2, 3]) (ea_2 ev_c ev_c) (by decide)) fun p1 hp1 => w_cons (w_c (w_cons (w_c (w_one (el_nil _ fun p2 hp2 => ?_)))))))))
    have e1 := ex_new (o := .lst (zv [2, 3])) (c9.noB hp1)
    replace c9 := c9.base (u := .lst (zv [2, 3])) hp1 trivial
    have f1 : upd H' p1 (.lst (zv [2, 3])) p1 = some (.lst (zv [2, 3])) := upd_same
    generalize upd H' p1 (.lst (zv [2, 3])) = B1 at c9 f1 e1 hp2 ⊢
    have e2 := ex_new (o := .lst []) (c9.noB hp2)
    replace c9 := c9.base (u := .lst []) hp2 trivial
    have f2 : upd B1 p2 (.lst []) p2 = some (.lst []) := upd_same
    replace f1 := e2 _ _ f1
    generalize upd B1 p2 (.lst []) = B2 at c9 f1 f2 e2 ⊢
    refine judge38 (low := 7) (high := 6) c9.o.nod c9.o.ex ⟨f1, w23b, by decide⟩ (pi (by omega) (by omega) (by omega)) (few 6 (by omega)) (jd_ibs (m := 0) (xs := []) (fun x hx => (List.not_mem_nil hx).elim) f2 (by simp)) ⟨true, rfl, iteT ?_⟩
    refine w_callW (w_cons (w_evL (el_lst (vs := zv [2, 3]) (ea_2 ev_c ev_c) (by decide)) fun p3 hp3 => w_cons (w_c (w_cons (w_c (w_one (w_lst (w_one (w_tupW (ea_2 ev_c ev_c _ ⟨by show 2 ≤ sizeLine; decide, fun u1 hu1 => ⟨by show 1 ≤ sizeLine; decide, fun p4 hp4 => ?_⟩⟩))))))))))
    have e3 := ex_new (o := .lst (zv [2, 3])) (c9.noB hp3)
    replace c9 := c9.base (u := .lst (zv [2, 3])) hp3 trivial
    have f3 : upd B2 p3 (.lst (zv [2, 3])) p3 = some (.lst (zv [2, 3])) := upd_same
    generalize upd B2 p3 (.lst (zv [2, 3])) = B3 at c9 f3 e3 hu1 hp4 ⊢
    have e4 := ex_new (o := .tup (pvals (1, 2))) (c9.noB hu1)
    replace c9 := c9.base (u := .tup (pvals (1, 2))) hu1 trivial
    have f4 : upd B3 u1 (.tup (pvals (1, 2))) u1 = some (.tup (pvals (1, 2))) := upd_same
    replace f3 := e4 _ _ f3
    generalize upd B3 u1 (.tup (pvals (1, 2))) = B4 at c9 f3 f4 e4 hp4 ⊢
    have e5 := ex_new (o := .lst [.ref u1]) (c9.noB hp4)
    replace c9 := c9.base (u := .lst [.ref u1]) hp4 trivial
    have f5 : upd B4 p4 (.lst [.ref u1]) p4 = some (.lst [.ref u1]) := upd_same
    replace f3 := e5 _ _ f3
    replace f4 := e5 _ _ f4
    generalize upd B4 p4 (.lst [.ref u1]) = B5 at c9 f3 f4 f5 e5 ⊢
    exact judge38 (low := 7) (high := 8) c9.o.nod c9.o.ex ⟨f3, w23b, by decide⟩ (pi (by omega) (by omega) (by omega)) (few 8 (by omega)) (jd_ibs (m := 2) (xs := [.ref u1]) (fun x hx => by rw [List.mem_singleton.mp hx]; exact ⟨_, _, ib_pair (q := (1, 2)) f4 (by decide) (by decide)⟩) f5 (by simp)) ⟨H, fg_same (ex_trans o.ex (ex_trans e1 (ex_trans e2 (ex_trans e3 (ex_trans e4 (ex_trans e5 c9.o.ex)))))), q _⟩
end Px
set_option Elab.async false
set_option linter.all false
set_option maxRecDepth 100000
set_option maxHeartbeats 0
namespace K38
open PySem PySem.Spec PyProof.Rows L2 Px
def top (i : Nat) : Stmt := PySem.Challenge.pw_smallparts_k38_papers_judged.main.body.getD i (.Pass ⟨0, 0, 0, 0⟩)
abbrev s_law_draws : Stmt := top 19
abbrev N_law_draws : List Str := ["script", "draws", "k", "rest", "stir", "many"]
theorem sc_law_draws : FnScope N_law_draws ["script"] (defScope s_law_draws) := ⟨rfl, rfl, rfl, by decide +kernel, rfl, by decide +kernel, by decide +kernel⟩
abbrev s_law_take : Stmt := top 20
abbrev N_law_take : List Str := ["draws", "many"]
theorem sc_law_take : FnScope N_law_take ["draws", "many"] (defScope s_law_take) := ⟨rfl, rfl, rfl, by decide +kernel, rfl, by decide +kernel, by decide +kernel⟩
abbrev s_law_row : Stmt := top 21
abbrev N_law_row : List Str := ["draws", "most", "every", "many", "way", "found", "k", "left", "prime"]
theorem sc_law_row : FnScope N_law_row ["draws", "most"] (defScope s_law_row) := ⟨rfl, rfl, rfl, by decide +kernel, rfl, by decide +kernel, by decide +kernel⟩
abbrev s_law_made : Stmt := top 22
abbrev N_law_made : List Str := ["row", "bound", "found", "prime", "times", "one"]
theorem sc_law_made : FnScope N_law_made ["row", "bound"] (defScope s_law_made) := ⟨rfl, rfl, rfl, by decide +kernel, rfl, by decide +kernel, by decide +kernel⟩
abbrev s_law_last : Stmt := top 25
abbrev N_law_last : List Str := ["row", "number", "found", "rest"]
theorem sc_law_last : FnScope N_law_last ["row", "number"] (defScope s_law_last) := ⟨rfl, rfl, rfl, by decide +kernel, rfl, by decide +kernel, by decide +kernel⟩
abbrev s_law_number : Stmt := top 26
abbrev N_law_number : List Str := ["draws", "most", "far", "k", "power", "base", "figures", "some"]
theorem sc_law_number : FnScope N_law_number ["draws", "most"] (defScope s_law_number) := ⟨rfl, rfl, rfl, by decide +kernel, rfl, by decide +kernel, by decide +kernel⟩
abbrev s_law_next : Stmt := top 24
abbrev N_law_next : List Str := ["row", "number", "most", "found", "rest"]
theorem sc_law_next : FnScope N_law_next ["row", "number"] (defScope s_law_next) := ⟨rfl, rfl, rfl, by decide +kernel, rfl, by decide +kernel, by decide +kernel⟩
abbrev s_law_gapM : Stmt := top 29
abbrev N_law_gapM : List Str := ["draws", "row", "most", "number", "ahead", "behind_it", "way", "far", "low"]
theorem sc_law_gapM : FnScope N_law_gapM ["draws", "row", "most"] (defScope s_law_gapM) := ⟨rfl, rfl, rfl, by decide +kernel, rfl, by decide +kernel, by decide +kernel⟩
abbrev s_law_all : Stmt := top 32
abbrev N_law_all : List Str := ["row", "low", "high", "found", "rest", "power", "here"]
theorem sc_law_all : FnScope N_law_all ["row", "low", "high"] (defScope s_law_all) := ⟨rfl, rfl, rfl, by decide +kernel, rfl, by decide +kernel, by decide +kernel⟩
abbrev s_law_whole : Stmt := top 27
abbrev N_law_whole : List Str := ["thing"]
theorem sc_law_whole : FnScope N_law_whole ["thing"] (defScope s_law_whole) := ⟨rfl, rfl, rfl, by decide +kernel, rfl, by decide +kernel, by decide +kernel⟩
abbrev s_law_bent : Stmt := top 30
abbrev N_law_bent : List Str := ["draws", "one", "side", "number", "some", "new", "found"]
theorem sc_law_bent : FnScope N_law_bent ["draws", "one"] (defScope s_law_bent) := ⟨rfl, rfl, rfl, by decide +kernel, rfl, by decide +kernel, by decide +kernel⟩
abbrev s_law_spoilt : Stmt := top 31
abbrev N_law_spoilt : List Str := ["draws", "given", "at", "way", "odd"]
theorem sc_law_spoilt : FnScope N_law_spoilt ["draws", "given"] (defScope s_law_spoilt) := ⟨rfl, rfl, rfl, by decide +kernel, rfl, by decide +kernel, by decide +kernel⟩
abbrev s_law_things : Stmt := top 35
abbrev N_law_things : List Str := ["draws", "row", "low", "high", "every", "bent", "found", "one"]
theorem sc_law_things : FnScope N_law_things ["draws", "row", "low", "high"] (defScope s_law_things) := ⟨rfl, rfl, rfl, by decide +kernel, rfl, by decide +kernel, by decide +kernel⟩
abbrev s_is_whole : Stmt := top 6
abbrev N_is_whole : List Str := ["thing"]
theorem sc_is_whole : FnScope N_is_whole ["thing"] (defScope s_is_whole) := ⟨rfl, rfl, rfl, by decide +kernel, rfl, by decide +kernel, by decide +kernel⟩
abbrev s_is_row : Stmt := top 7
abbrev N_is_row : List Str := ["thing", "one", "further"]
theorem sc_is_row : FnScope N_is_row ["thing"] (defScope s_is_row) := ⟨rfl, rfl, rfl, by decide +kernel, rfl, by decide +kernel, by decide +kernel⟩
abbrev s_need_row : Stmt := top 8
abbrev N_need_row : List Str := ["row"]
theorem sc_need_row : FnScope N_need_row ["row"] (defScope s_need_row) := ⟨rfl, rfl, rfl, by decide +kernel, rfl, by decide +kernel, by decide +kernel⟩
abbrev s_is_made : Stmt := top 9
abbrev N_is_made : List Str := ["row", "number", "prime"]
theorem sc_is_made : FnScope N_is_made ["row", "number"] (defScope s_is_made) := ⟨rfl, rfl, rfl, by decide +kernel, rfl, by decide +kernel, by decide +kernel⟩
abbrev s_is_made_of : Stmt := top 10
abbrev N_is_made_of : List Str := ["row", "thing"]
theorem sc_is_made_of : FnScope N_is_made_of ["row", "thing"] (defScope s_is_made_of) := ⟨rfl, rfl, rfl, by decide +kernel, rfl, by decide +kernel, by decide +kernel⟩
abbrev s_power_below : Stmt := top 13
abbrev N_power_below : List Str := ["prime", "rest", "low", "power", "here"]
theorem sc_power_below : FnScope N_power_below ["prime", "rest", "low"] (defScope s_power_below) := ⟨rfl, rfl, rfl, by decide +kernel, rfl, by decide +kernel, by decide +kernel⟩
abbrev s_rests_to : Stmt := top 12
abbrev N_rests_to : List Str := ["row", "bound", "found", "prime", "times", "one"]
theorem sc_rests_to : FnScope N_rests_to ["row", "bound"] (defScope s_rests_to) := ⟨rfl, rfl, rfl, by decide +kernel, rfl, by decide +kernel, by decide +kernel⟩
abbrev s_right_paper : Stmt := top 15
abbrev N_right_paper : List Str := ["row", "low", "high", "rest"]
theorem sc_right_paper : FnScope N_right_paper ["row", "low", "high"] (defScope s_right_paper) := ⟨rfl, rfl, rfl, by decide +kernel, rfl, by decide +kernel, by decide +kernel⟩
abbrev s_is_far : Stmt := top 14
abbrev N_is_far : List Str := ["prime", "rest", "power", "high", "here", "turn"]
theorem sc_is_far : FnScope N_is_far ["prime", "rest", "power", "high"] (defScope s_is_far) := ⟨rfl, rfl, rfl, by decide +kernel, rfl, by decide +kernel, by decide +kernel⟩
abbrev s_paper_of : Stmt := top 16
abbrev N_paper_of : List Str := ["row", "low", "high", "found", "rest", "power"]
theorem sc_paper_of : FnScope N_paper_of ["row", "low", "high"] (defScope s_paper_of) := ⟨rfl, rfl, rfl, by decide +kernel, rfl, by decide +kernel, by decide +kernel⟩
abbrev s_is_paperZ : Stmt := top 17
abbrev N_is_paperZ : List Str := ["row", "low", "high", "thing", "due", "one", "pair", "part"]
theorem sc_is_paperZ : FnScope N_is_paperZ ["row", "low", "high", "thing"] (defScope s_is_paperZ) := ⟨rfl, rfl, rfl, by decide +kernel, rfl, by decide +kernel, by decide +kernel⟩
abbrev s_law_right_paper : Stmt := top 28
abbrev N_law_right_paper : List Str := ["row", "low", "high", "found", "rest", "power", "here"]
theorem sc_law_right_paper : FnScope N_law_right_paper ["row", "low", "high"] (defScope s_law_right_paper) := ⟨rfl, rfl, rfl, by decide +kernel, rfl, by decide +kernel, by decide +kernel⟩
abbrev s_law_judged : Stmt := top 34
abbrev N_law_judged : List Str := ["row", "low", "high", "thing", "due", "kept", "again", "found"]
theorem sc_law_judged : FnScope N_law_judged ["row", "low", "high", "thing"] (defScope s_law_judged) := ⟨rfl, rfl, rfl, by decide +kernel, rfl, by decide +kernel, by decide +kernel⟩
abbrev s_law_deep : Stmt := top 33
abbrev N_law_deep : List Str := ["many", "found", "k"]
theorem sc_law_deep : FnScope N_law_deep ["many"] (defScope s_law_deep) := ⟨rfl, rfl, rfl, by decide +kernel, rfl, by decide +kernel, by decide +kernel⟩
abbrev s_law : Stmt := top 36
abbrev N_law : List Str := ["script", "draws", "many", "row", "low", "high", "thing", "every", "at", "none", "deep"]
theorem sc_law : FnScope N_law ["script"] (defScope s_law) := ⟨rfl, rfl, rfl, by decide +kernel, rfl, by decide +kernel, by decide +kernel⟩
section
variable {P : Program} {w : World} {K : PySem.W.Frag} {mg : Str → Option Value} {base : Heap} {f : Addr} {fd : FuncData}
theorem ok_law_draws (F : FnP K "_law_draws" s_law_draws f fd) (g : mg "_law_draws" = some (.ref f)) (m_abs : mg "abs" = none) (m_len : mg "len" = none) (m_min : mg "min" = none) (m_range : mg "range" = none) : Fn P w K mg base "_law_draws" 1 ["script"] (sp_law_draws K) := by
  refine ⟨f, fd, F.ok (k := 0) sc_law_draws (fun vs H Q E h => by first | (obtain ⟨_, _, rfl, _⟩ := h; rfl) | (obtain ⟨_, _, _, rfl, _⟩ := h; rfl) | (obtain ⟨_, _, _, _, rfl, _⟩ := h; rfl) | (obtain ⟨_, _, _, _, _, rfl, _⟩ := h; rfl) | (obtain ⟨_, _, _, _, _, _, rfl, _⟩ := h; rfl) | (obtain ⟨_, _, _, _, _, _, _, rfl, _⟩ := h; rfl) | (obtain ⟨_, _, _, _, _, _, _, _, rfl, _⟩ := h; rfl) | (obtain ⟨_, _, _, _, _, _, _, _, _, rfl, _⟩ := h; rfl) | (obtain ⟨_, _, _, _, _, _, _, _, _, _, rfl, _⟩ := h; rfl) | (obtain ⟨_, _, _, _, _, _, _, _, _, _, _, rfl, _⟩ := h; rfl) | (obtain ⟨_, _, _, _, _, _, _, _, _, _, _, _, rfl, _⟩ := h; rfl) | (obtain ⟨_, _, _, _, _, _, _, _, _, _, _, _, _, rfl, _⟩ := h; rfl) | (obtain ⟨_, _, _, _, _, _, _, _, _, _, _, _, _, _, rfl, _⟩ := h; rfl) | (obtain ⟨_, _, _, _, _, _, _, _, _, _, _, _, _, _, _, rfl, _⟩ := h; rfl)) (fun cdv A outer s H vs Q E hr h => ⟨t_law_draws K, PSs.nox ?_, r_law_draws h⟩), g, F.kp, F.bindsN fun _ _ _ _ _ _ us hl => match us, hl with | [_], _ => rfl⟩
  exact (pss_fg (pss_cons (ps_set (i := 1) sc_law_draws.nd rfl (Or.inl rfl) (pe_lst pa_nil))
      (pss_cons (ps_for PassesOwn.never rfl (pi_range1 (by rfl) m_range (pa_cons (pe_callB (call_min2 rfl) (by rfl) m_min (by decide +kernel) (pa_cons (pe_callB call_len_seq (by rfl) m_len (by decide +kernel) (pa_cons (pv 0) pa_nil)) (pa_cons pe_int pa_nil))) pa_nil)) (pg_name (i := 2) sc_law_draws.nd rfl (Or.inl rfl)) (pss_cons (ps_set (i := 3) sc_law_draws.nd rfl (Or.inl rfl) (pe_callB call_abs (by rfl) m_abs (by decide +kernel) (pa_cons (pe_ix ix_list (pv 0) (pv 2) (fun _ _ => rfl)) pa_nil)))
      (pss_one (ps_if (pt_cmpR op_lt (pv 3) (pe_op op_pow pe_int pe_int) (nomark _)) (pss_cons (ps_set (i := 4) sc_law_draws.nd rfl (Or.inl rfl) (pe_op op_mod (pe_op op_mulW (pe_op op_mod (pe_op op_add (pe_op op_add (pv 3) (pe_op op_mulW pe_int (pv 2))) pe_int) pe_int) pe_int) pe_int))
      (pss_cons (ps_set (i := 4) sc_law_draws.nd rfl (Or.inl rfl) (pe_op op_mod (pe_op op_mulW (pv 4) (pv 4)) pe_int))
      (pss_cons (ps_expr (pe_bm PySem.F.plainAttrs_list PySem.F.slot_list_append PySem.F.type_list_append mt_append (pv 1) (pa_cons (pe_op op_mod (pe_op op_fdivW (pv 4) pe_int) pe_int) pa_nil)))
      (pss_cons (ps_expr (pe_bm PySem.F.plainAttrs_list PySem.F.slot_list_append PySem.F.type_list_append mt_append (pv 1) (pa_cons (pe_op op_mod (pe_op op_fdivW (pv 4) pe_int) pe_int) pa_nil)))
      (pss_cons (ps_set (i := 4) sc_law_draws.nd rfl (Or.inl rfl) (pe_op op_mod (pe_op op_add (pv 4) (pe_op op_mulW pe_int (pe_op op_add (pv 2) pe_int))) pe_int))
      (pss_one (ps_expr (pe_bm PySem.F.plainAttrs_list PySem.F.slot_list_append PySem.F.type_list_append mt_append (pv 1) (pa_cons (pe_op op_mod (pe_op op_fdivW (pe_op op_mod (pe_op op_mulW (pv 4) (pv 4)) pe_int) pe_int) pe_int) pa_nil))))))))) (pss_cons (ps_set (i := 5) sc_law_draws.nd rfl (Or.inl rfl) pe_int)
      (pss_one (ps_while PassesOwn.never (PW.pt (pw_and (pt_cmpR op_ge (pv 3) pe_int (nomark _)) (pw_and1 (pt_cmpR op_lt (pv 5) pe_int (nomark _))))) (pss_cons (ps_expr (pe_bm PySem.F.plainAttrs_list PySem.F.slot_list_append PySem.F.type_list_append mt_append (pv 1) (pa_cons (pe_op op_mod (pv 3) pe_int) pa_nil)))
      (pss_cons (ps_set (i := 3) sc_law_draws.nd rfl (Or.inl rfl) (pe_op op_fdivW (pv 3) pe_int))
      (pss_one (ps_set (i := 5) sc_law_draws.nd rfl (Or.inl rfl) (pe_op op_add (pv 5) pe_int))))))))))))
      (pss_one (ps_ret (pe_slice sl_list (pv 1) po_none (po_some pe_int)))))))
theorem ok_law_take (F : FnP K "_law_take" s_law_take f fd) (g : mg "_law_take" = some (.ref f))  : Fn P w K mg base "_law_take" 1 ["draws", "many"] (sp_law_take K) := by
  refine ⟨f, fd, F.ok (k := 0) sc_law_take (fun vs H Q E h => by first | (obtain ⟨_, _, rfl, _⟩ := h; rfl) | (obtain ⟨_, _, _, rfl, _⟩ := h; rfl) | (obtain ⟨_, _, _, _, rfl, _⟩ := h; rfl) | (obtain ⟨_, _, _, _, _, rfl, _⟩ := h; rfl) | (obtain ⟨_, _, _, _, _, _, rfl, _⟩ := h; rfl) | (obtain ⟨_, _, _, _, _, _, _, rfl, _⟩ := h; rfl) | (obtain ⟨_, _, _, _, _, _, _, _, rfl, _⟩ := h; rfl) | (obtain ⟨_, _, _, _, _, _, _, _, _, rfl, _⟩ := h; rfl) | (obtain ⟨_, _, _, _, _, _, _, _, _, _, rfl, _⟩ := h; rfl) | (obtain ⟨_, _, _, _, _, _, _, _, _, _, _, rfl, _⟩ := h; rfl) | (obtain ⟨_, _, _, _, _, _, _, _, _, _, _, _, rfl, _⟩ := h; rfl) | (obtain ⟨_, _, _, _, _, _, _, _, _, _, _, _, _, rfl, _⟩ := h; rfl) | (obtain ⟨_, _, _, _, _, _, _, _, _, _, _, _, _, _, rfl, _⟩ := h; rfl) | (obtain ⟨_, _, _, _, _, _, _, _, _, _, _, _, _, _, _, rfl, _⟩ := h; rfl)) (fun cdv A outer s H vs Q E hr h => ⟨t_law_take K, PSs.nox ?_, r_law_take h⟩), g, F.kp, F.bindsN fun _ _ _ _ _ _ us hl => match us, hl with | [_, _], _ => rfl⟩
  exact (pss_fg (pss_cons (ps_if (pt_fg (pt_cmpR (op_eqD hr.units) (pv 0) (pe_lst pa_nil) (nomark _))) (pss_one (ps_ret pe_int)) pss_nil)
      (pss_one (ps_ret (pe_op op_mod (pe_bm PySem.F.plainAttrs_list PySem.F.slot_list_pop PySem.F.type_list_pop mt_popAt (pv 0) (pa_cons pe_int pa_nil)) (pv 1))))))
theorem ok_law_row (F : FnP K "_law_row" s_law_row f fd) (g : mg "_law_row" = some (.ref f)) (F_law_take : Fn P w K mg base "_law_take" 1 ["draws", "many"] (sp_law_take K)) (m_len : mg "len" = none) (m_range : mg "range" = none) (m_sorted : mg "sorted" = none) : Fn P w K mg base "_law_row" 2 ["draws", "most"] (sp_law_row K) := by
  refine ⟨f, fd, F.ok (k := 1) sc_law_row (fun vs H Q E h => by first | (obtain ⟨_, _, rfl, _⟩ := h; rfl) | (obtain ⟨_, _, _, rfl, _⟩ := h; rfl) | (obtain ⟨_, _, _, _, rfl, _⟩ := h; rfl) | (obtain ⟨_, _, _, _, _, rfl, _⟩ := h; rfl) | (obtain ⟨_, _, _, _, _, _, rfl, _⟩ := h; rfl) | (obtain ⟨_, _, _, _, _, _, _, rfl, _⟩ := h; rfl) | (obtain ⟨_, _, _, _, _, _, _, _, rfl, _⟩ := h; rfl) | (obtain ⟨_, _, _, _, _, _, _, _, _, rfl, _⟩ := h; rfl) | (obtain ⟨_, _, _, _, _, _, _, _, _, _, rfl, _⟩ := h; rfl) | (obtain ⟨_, _, _, _, _, _, _, _, _, _, _, rfl, _⟩ := h; rfl) | (obtain ⟨_, _, _, _, _, _, _, _, _, _, _, _, rfl, _⟩ := h; rfl) | (obtain ⟨_, _, _, _, _, _, _, _, _, _, _, _, _, rfl, _⟩ := h; rfl) | (obtain ⟨_, _, _, _, _, _, _, _, _, _, _, _, _, _, rfl, _⟩ := h; rfl) | (obtain ⟨_, _, _, _, _, _, _, _, _, _, _, _, _, _, _, rfl, _⟩ := h; rfl)) (fun cdv A outer s H vs Q E hr h => ⟨t_law_row K, PSs.nox ?_, r_law_row h⟩), g, F.kp, F.bindsN fun _ _ _ _ _ _ us hl => match us, hl with | [_, _], _ => rfl⟩
  exact (pss_fg (pss_cons (ps_set (i := 2) sc_law_row.nd rfl (Or.inl rfl) (pe_lst (pa_cons pe_int (pa_cons pe_int (pa_cons pe_int (pa_cons pe_int (pa_cons pe_int (pa_cons pe_int (pa_cons pe_int (pa_cons pe_int (pa_cons pe_int (pa_cons pe_int (pa_cons pe_int (pa_cons pe_int (pa_cons pe_int (pa_cons pe_int (pa_cons pe_int (pa_cons pe_int (pa_cons pe_int (pa_cons pe_int (pa_cons pe_int (pa_cons pe_int (pa_cons pe_int (pa_cons pe_int (pa_cons pe_int (pa_cons pe_int (pa_cons pe_int pa_nil)))))))))))))))))))))))))))
      (pss_cons (ps_set (i := 3) sc_law_row.nd rfl (Or.inl rfl) (pe_op op_add pe_int (pe_fn F_law_take (hr.mono (by decide)) (pa_cons (pv 0) (pa_cons (pv 1) pa_nil)))))
      (pss_cons (ps_set (i := 4) sc_law_row.nd rfl (Or.inl rfl) (pe_fn F_law_take (hr.mono (by decide)) (pa_cons (pv 0) (pa_cons pe_int pa_nil))))
      (pss_cons (ps_set (i := 5) sc_law_row.nd rfl (Or.inr rfl) (pe_lst pa_nil))
      (pss_cons (ps_for PassesOwn.never rfl (pi_range1 (by rfl) m_range (pa_cons (pv 3) pa_nil)) (pg_name (i := 6) sc_law_row.nd rfl (Or.inl rfl)) (pss_cons (ps_setLc (i := 7) (own := [("prime", 8)]) (g := (gName 8)) (tt := (tTest (tOp (rIn K true) (tVar 8) (tVar 5)))) rfl sc_law_row.nd rfl rfl (sw_true rfl rfl rfl (by decide +kernel)) (pi_list (pv 2)) (blkOk_by (N := N_law_row) (sc := defScope s_law_row) (by decide +kernel)) (fun _ _ _ _ _ => (pg_name (i := 8) sc_law_row.nd rfl (Or.inl rfl))) (fun _ _ _ _ _ => (pts_one (pt_cmpR op_notIn_seq (pv 8) (pv 5) (by with_unfolding_all rfl)))) (fun _ _ _ _ _ => (pv 8)))
      (pss_cons (ps_if (pt_cmpR op_eq (pv 4) pe_int (nomark _)) (pss_one (ps_set (i := 7) sc_law_row.nd rfl (Or.inl rfl) (pe_slice sl_list (pv 7) po_none (po_some pe_int)))) pss_nil)
      (pss_cons (ps_if (pt_cmpR op_eq (pv 4) pe_int (nomark _)) (pss_one (ps_set (i := 7) sc_law_row.nd rfl (Or.inl rfl) (pe_slice sl_list (pv 7) po_none (po_some pe_int)))) pss_nil)
      (pss_one (ps_expr (pe_bm PySem.F.plainAttrs_list PySem.F.slot_list_append PySem.F.type_list_append mt_append (pv 5) (pa_cons (pe_ix ix_list (pv 7) (pe_op op_mod (pe_fn F_law_take (hr.mono (by decide)) (pa_cons (pv 0) (pa_cons pe_int pa_nil))) (pe_callB call_len_seq (by rfl) m_len (by decide +kernel) (pa_cons (pv 7) pa_nil))) (fun _ _ => rfl)) pa_nil))))))))
      (pss_one (ps_ret (pe_callB cr_sortedI (by rfl) m_sorted (by decide +kernel) (pa_cons (pv 5) pa_nil))))))))))
theorem ok_law_made (F : FnP K "_law_made" s_law_made f fd) (g : mg "_law_made" = some (.ref f)) (m_int : mg "int" = none) (m_list : mg "list" = none) (m_sorted : mg "sorted" = none) : Fn P w K mg base "_law_made" 1 ["row", "bound"] (sp_law_made K) := by
  refine ⟨f, fd, F.ok (k := 0) sc_law_made (fun vs H Q E h => by first | (obtain ⟨_, _, rfl, _⟩ := h; rfl) | (obtain ⟨_, _, _, rfl, _⟩ := h; rfl) | (obtain ⟨_, _, _, _, rfl, _⟩ := h; rfl) | (obtain ⟨_, _, _, _, _, rfl, _⟩ := h; rfl) | (obtain ⟨_, _, _, _, _, _, rfl, _⟩ := h; rfl) | (obtain ⟨_, _, _, _, _, _, _, rfl, _⟩ := h; rfl) | (obtain ⟨_, _, _, _, _, _, _, _, rfl, _⟩ := h; rfl) | (obtain ⟨_, _, _, _, _, _, _, _, _, rfl, _⟩ := h; rfl) | (obtain ⟨_, _, _, _, _, _, _, _, _, _, rfl, _⟩ := h; rfl) | (obtain ⟨_, _, _, _, _, _, _, _, _, _, _, rfl, _⟩ := h; rfl) | (obtain ⟨_, _, _, _, _, _, _, _, _, _, _, _, rfl, _⟩ := h; rfl) | (obtain ⟨_, _, _, _, _, _, _, _, _, _, _, _, _, rfl, _⟩ := h; rfl) | (obtain ⟨_, _, _, _, _, _, _, _, _, _, _, _, _, _, rfl, _⟩ := h; rfl) | (obtain ⟨_, _, _, _, _, _, _, _, _, _, _, _, _, _, _, rfl, _⟩ := h; rfl)) (fun cdv A outer s H vs Q E hr h => ⟨t_law_made K, PSs.nox ?_, r_law_made h⟩), g, F.kp, F.bindsN fun _ _ _ _ _ _ us hl => match us, hl with | [_, _], _ => rfl⟩
  exact (pss_fg (pss_cons (ps_set (i := 2) sc_law_made.nd rfl (Or.inl rfl) (pe_fg (pe_op op_rep (pe_lst (pa_cons pe_int pa_nil)) (pe_callTy call_int1 (by rfl) m_int (by decide +kernel) (pa_cons (pe_cmpR op_ge (pv 1) pe_int (nomark _)) pa_nil)))))
      (pss_cons (ps_for PassesOwn.never rfl (pi_list (pv 0)) (pg_name (i := 3) sc_law_made.nd rfl (Or.inr rfl)) (pss_cons (ps_set (i := 4) sc_law_made.nd rfl (Or.inl rfl) (pe_callTy call_list_of (by rfl) m_list (by decide +kernel) (pa_cons (pv 2) pa_nil)))
      (pss_one (ps_while PassesOwn.never (pt_fg (pt_cmpR (op_neD hr.units) (pv 4) (pe_lst pa_nil) (nomark _))) (pss_cons (ps_setLc (i := 4) (own := [("one", 5)]) (g := (gName 5)) (tt := (tTest (tOp oLe (tOp oMul (tVar 3) (tVar 5)) (tVar 1)))) rfl sc_law_made.nd rfl rfl (sw_true rfl rfl rfl (by decide +kernel)) (pi_list (pv 4)) (blkOk_by (N := N_law_made) (sc := defScope s_law_made) (by decide +kernel)) (fun _ _ _ _ _ => (pg_name (i := 5) sc_law_made.nd rfl (Or.inl rfl))) (fun _ _ _ _ _ => (pts_one (pt_cmpR op_le (pe_op op_mulW (pv 3) (pv 5)) (pv 1) (nomark _)))) (fun _ _ _ _ _ => (pe_op op_mulW (pv 3) (pv 5))))
      (pss_one (ps_expr (pe_bm PySem.F.plainAttrs_list PySem.F.slot_list_extend PySem.F.type_list_extend mt_extend (pv 2) (pa_cons (pv 4) pa_nil)))))))))
      (pss_one (ps_ret (pe_callB cr_sortedI (by rfl) m_sorted (by decide +kernel) (pa_cons (pv 2) pa_nil)))))))
theorem ok_law_last (F : FnP K "_law_last" s_law_last f fd) (g : mg "_law_last" = some (.ref f)) (F_law_made : Fn P w K mg base "_law_made" 1 ["row", "bound"] (sp_law_made K)) (m_max : mg "max" = none) : Fn P w K mg base "_law_last" 2 ["row", "number"] (sp_law_last K) := by
  refine ⟨f, fd, F.ok (k := 1) sc_law_last (fun vs H Q E h => by first | (obtain ⟨_, _, rfl, _⟩ := h; rfl) | (obtain ⟨_, _, _, rfl, _⟩ := h; rfl) | (obtain ⟨_, _, _, _, rfl, _⟩ := h; rfl) | (obtain ⟨_, _, _, _, _, rfl, _⟩ := h; rfl) | (obtain ⟨_, _, _, _, _, _, rfl, _⟩ := h; rfl) | (obtain ⟨_, _, _, _, _, _, _, rfl, _⟩ := h; rfl) | (obtain ⟨_, _, _, _, _, _, _, _, rfl, _⟩ := h; rfl) | (obtain ⟨_, _, _, _, _, _, _, _, _, rfl, _⟩ := h; rfl) | (obtain ⟨_, _, _, _, _, _, _, _, _, _, rfl, _⟩ := h; rfl) | (obtain ⟨_, _, _, _, _, _, _, _, _, _, _, rfl, _⟩ := h; rfl) | (obtain ⟨_, _, _, _, _, _, _, _, _, _, _, _, rfl, _⟩ := h; rfl) | (obtain ⟨_, _, _, _, _, _, _, _, _, _, _, _, _, rfl, _⟩ := h; rfl) | (obtain ⟨_, _, _, _, _, _, _, _, _, _, _, _, _, _, rfl, _⟩ := h; rfl) | (obtain ⟨_, _, _, _, _, _, _, _, _, _, _, _, _, _, _, rfl, _⟩ := h; rfl)) (fun cdv A outer s H vs Q E hr h => ⟨t_law_last K, PSs.nox ?_, r_law_last h⟩), g, F.kp, F.bindsN fun _ _ _ _ _ _ us hl => match us, hl with | [_, _], _ => rfl⟩
  exact (pss_fg (pss_cons (ps_set (i := 2) sc_law_last.nd rfl (Or.inl rfl) pe_non)
      (pss_cons (ps_for PassesOwn.never rfl (pi_list (pe_fn F_law_made (hr.mono (by decide)) (pa_cons (pe_slice sl_list (pv 0) (po_some pe_int) po_none) (pa_cons (pe_op op_sub (pv 1) pe_int) pa_nil)))) (pg_name (i := 3) sc_law_last.nd rfl (Or.inl rfl)) (pss_cons (ps_while PassesOwn.never (pt_cmpR op_lt (pe_op op_mulW (pv 3) (pe_ix ix_list (pv 0) pe_int (fun _ _ => rfl))) (pv 1) (nomark _)) (pss_one (ps_set (i := 3) sc_law_last.nd rfl (Or.inl rfl) (pe_op op_mulW (pv 3) (pe_ix ix_list (pv 0) pe_int (fun _ _ => rfl))))))
      (pss_one (ps_set (i := 2) sc_law_last.nd rfl (Or.inl rfl) (pe_ifExp (pt_cmpR op_isN (pv 2) pe_non (nomark _)) (pv 3) (pe_callB (call_max2 rfl) (by rfl) m_max (by decide +kernel) (pa_cons (pv 2) (pa_cons (pv 3) pa_nil))))))))
      (pss_one (ps_ret (pv 2))))))
theorem ok_law_number (F : FnP K "_law_number" s_law_number f fd) (g : mg "_law_number" = some (.ref f)) (F_law_take : Fn P w K mg base "_law_take" 1 ["draws", "many"] (sp_law_take K)) (m_int : mg "int" = none) (m_max : mg "max" = none) (m_min : mg "min" = none) (m_range : mg "range" = none) : Fn P w K mg base "_law_number" 2 ["draws", "most"] (sp_law_number K) := by
  refine ⟨f, fd, F.ok (k := 1) sc_law_number (fun vs H Q E h => by first | (obtain ⟨_, _, rfl, _⟩ := h; rfl) | (obtain ⟨_, _, _, rfl, _⟩ := h; rfl) | (obtain ⟨_, _, _, _, rfl, _⟩ := h; rfl) | (obtain ⟨_, _, _, _, _, rfl, _⟩ := h; rfl) | (obtain ⟨_, _, _, _, _, _, rfl, _⟩ := h; rfl) | (obtain ⟨_, _, _, _, _, _, _, rfl, _⟩ := h; rfl) | (obtain ⟨_, _, _, _, _, _, _, _, rfl, _⟩ := h; rfl) | (obtain ⟨_, _, _, _, _, _, _, _, _, rfl, _⟩ := h; rfl) | (obtain ⟨_, _, _, _, _, _, _, _, _, _, rfl, _⟩ := h; rfl) | (obtain ⟨_, _, _, _, _, _, _, _, _, _, _, rfl, _⟩ := h; rfl) | (obtain ⟨_, _, _, _, _, _, _, _, _, _, _, _, rfl, _⟩ := h; rfl) | (obtain ⟨_, _, _, _, _, _, _, _, _, _, _, _, _, rfl, _⟩ := h; rfl) | (obtain ⟨_, _, _, _, _, _, _, _, _, _, _, _, _, _, rfl, _⟩ := h; rfl) | (obtain ⟨_, _, _, _, _, _, _, _, _, _, _, _, _, _, _, rfl, _⟩ := h; rfl)) (fun cdv A outer s H vs Q E hr h => ⟨t_law_number K, PSs.nox ?_, r_law_number h⟩), g, F.kp, F.bindsN fun _ _ _ _ _ _ us hl => match us, hl with | [_, _], _ => rfl⟩
  exact (pss_fg (pss_cons (ps_set (i := 2) sc_law_number.nd rfl (Or.inl rfl) pe_int)
      (pss_cons (ps_for PassesOwn.never rfl (pi_range1 (by rfl) m_range (pa_cons pe_int pa_nil)) (pg_name (i := 3) sc_law_number.nd rfl (Or.inl rfl)) (pss_one (ps_set (i := 2) sc_law_number.nd rfl (Or.inl rfl) (pe_op op_add (pe_op op_mulW (pv 2) pe_int) (pe_fn F_law_take (hr.mono (by decide)) (pa_cons (pv 0) (pa_cons pe_int pa_nil)))))))
      (pss_cons (ps_set (i := 4) sc_law_number.nd rfl (Or.inl rfl) pe_int)
      (pss_cons (ps_set (i := 5) sc_law_number.nd rfl (Or.inl rfl) (pe_fg (pe_ix ix_list (pe_lst (pa_cons pe_int (pa_cons pe_int (pa_cons pe_int (pa_cons pe_int (pa_cons pe_int (pa_cons pe_int pa_nil))))))) (pe_fn F_law_take (hr.mono (by decide)) (pa_cons (pv 0) (pa_cons pe_int pa_nil))) (fun _ _ => rfl))))
      (pss_cons (ps_for PassesOwn.never rfl (pi_range1 (by rfl) m_range (pa_cons (pe_fn F_law_take (hr.mono (by decide)) (pa_cons (pv 0) (pa_cons pe_int pa_nil))) pa_nil)) (pg_name (i := 3) sc_law_number.nd rfl (Or.inl rfl)) (pss_one (ps_set (i := 4) sc_law_number.nd rfl (Or.inl rfl) (pe_ifExp (pt_cmpR op_lt (pv 4) (pv 1) (nomark _)) (pe_op op_mulW (pv 4) (pv 5)) (pv 4)))))
      (pss_cons (ps_set (i := 6) sc_law_number.nd rfl (Or.inl rfl) (pe_callTy call_int_str (by rfl) m_int (by decide +kernel) (pa_cons (pe_op op_add_str pe_str (pe_op op_repS pe_str (pe_fn F_law_take (hr.mono (by decide)) (pa_cons (pv 0) (pa_cons pe_int pa_nil))))) pa_nil)))
      (pss_cons (ps_set (i := 7) sc_law_number.nd rfl (Or.inl rfl) (pe_lst (pa_cons (pe_fn F_law_take (hr.mono (by decide)) (pa_cons (pv 0) (pa_cons pe_int pa_nil))) (pa_cons (pe_fn F_law_take (hr.mono (by decide)) (pa_cons (pv 0) (pa_cons pe_int pa_nil))) (pa_cons (pe_op op_sub (pe_op op_add (pv 4) (pe_fn F_law_take (hr.mono (by decide)) (pa_cons (pv 0) (pa_cons pe_int pa_nil)))) pe_int) (pa_cons (pe_op op_mod (pv 2) (pv 6)) pa_nil))))))
      (pss_cons (ps_set (i := 7) sc_law_number.nd rfl (Or.inl rfl) (pe_fg (pe_op op_cat (pv 7) (pe_lst (pa_cons (pe_op op_mod (pv 2) (pe_op op_add (pv 1) pe_int)) (pa_cons (pe_op op_mod (pv 2) (pe_op op_add (pv 1) pe_int)) (pa_cons (pv 1) pa_nil)))))))
      (pss_one (ps_ret (pe_callB (call_max2 rfl) (by rfl) m_max (by decide +kernel) (pa_cons pe_int (pa_cons (pe_callB (call_min2 rfl) (by rfl) m_min (by decide +kernel) (pa_cons (pv 1) (pa_cons (pe_ix ix_list (pv 7) (pe_fn F_law_take (hr.mono (by decide)) (pa_cons (pv 0) (pa_cons pe_int pa_nil))) (fun _ _ => rfl)) pa_nil))) pa_nil))))))))))))))
theorem ok_law_next (F : FnP K "_law_next" s_law_next f fd) (g : mg "_law_next" = some (.ref f)) (F_law_made : Fn P w K mg base "_law_made" 1 ["row", "bound"] (sp_law_made K)) (m_min : mg "min" = none) : Fn P w K mg base "_law_next" 2 ["row", "number"] (sp_law_next K) := by
  refine ⟨f, fd, F.ok (k := 1) sc_law_next (fun vs H Q E h => by first | (obtain ⟨_, _, rfl, _⟩ := h; rfl) | (obtain ⟨_, _, _, rfl, _⟩ := h; rfl) | (obtain ⟨_, _, _, _, rfl, _⟩ := h; rfl) | (obtain ⟨_, _, _, _, _, rfl, _⟩ := h; rfl) | (obtain ⟨_, _, _, _, _, _, rfl, _⟩ := h; rfl) | (obtain ⟨_, _, _, _, _, _, _, rfl, _⟩ := h; rfl) | (obtain ⟨_, _, _, _, _, _, _, _, rfl, _⟩ := h; rfl) | (obtain ⟨_, _, _, _, _, _, _, _, _, rfl, _⟩ := h; rfl) | (obtain ⟨_, _, _, _, _, _, _, _, _, _, rfl, _⟩ := h; rfl) | (obtain ⟨_, _, _, _, _, _, _, _, _, _, _, rfl, _⟩ := h; rfl) | (obtain ⟨_, _, _, _, _, _, _, _, _, _, _, _, rfl, _⟩ := h; rfl) | (obtain ⟨_, _, _, _, _, _, _, _, _, _, _, _, _, rfl, _⟩ := h; rfl) | (obtain ⟨_, _, _, _, _, _, _, _, _, _, _, _, _, _, rfl, _⟩ := h; rfl) | (obtain ⟨_, _, _, _, _, _, _, _, _, _, _, _, _, _, _, rfl, _⟩ := h; rfl)) (fun cdv A outer s H vs Q E hr h => ⟨t_law_next K, PSs.nox ?_, r_law_next h⟩), g, F.kp, F.bindsN fun _ _ _ _ _ _ us hl => match us, hl with | [_, _], _ => rfl⟩
  exact (pss_fg (pss_cons (ps_set (i := 2) sc_law_next.nd rfl (Or.inl rfl) pe_int)
      (pss_cons (ps_while PassesOwn.never (pt_cmpR op_le (pv 2) (pv 1) (nomark _)) (pss_one (ps_set (i := 2) sc_law_next.nd rfl (Or.inl rfl) (pe_op op_mulW (pv 2) (pe_ix ix_list (pv 0) pe_int (fun _ _ => rfl))))))
      (pss_cons (ps_set (i := 3) sc_law_next.nd rfl (Or.inl rfl) (pv 2))
      (pss_cons (ps_for PassesOwn.never rfl (pi_list (pe_fn F_law_made (hr.mono (by decide)) (pa_cons (pe_slice sl_list (pv 0) (po_some pe_int) po_none) (pa_cons (pv 2) pa_nil)))) (pg_name (i := 4) sc_law_next.nd rfl (Or.inl rfl)) (pss_cons (ps_while PassesOwn.never (pt_cmpR op_le (pv 4) (pv 1) (nomark _)) (pss_one (ps_set (i := 4) sc_law_next.nd rfl (Or.inl rfl) (pe_op op_mulW (pv 4) (pe_ix ix_list (pv 0) pe_int (fun _ _ => rfl))))))
      (pss_one (ps_set (i := 3) sc_law_next.nd rfl (Or.inl rfl) (pe_callB (call_min2 rfl) (by rfl) m_min (by decide +kernel) (pa_cons (pv 3) (pa_cons (pv 4) pa_nil)))))))
      (pss_one (ps_ret (pv 3))))))))
theorem ok_law_gapM (F : FnP K "_law_gap" s_law_gapM f fd) (g : mg "_law_gap" = some (.ref f)) (F_law_number : Fn P w K mg base "_law_number" 2 ["draws", "most"] (sp_law_number K)) (F_law_last : Fn P w K mg base "_law_last" 2 ["row", "number"] (sp_law_last K)) (F_law_next : Fn P w K mg base "_law_next" 2 ["row", "number"] (sp_law_next K)) (F_law_take : Fn P w K mg base "_law_take" 1 ["draws", "many"] (sp_law_take K)) (m_max : mg "max" = none) (m_min : mg "min" = none) : Fn P w K mg base "_law_gap" 3 ["draws", "row", "most"] (sp_law_gapM K) := by
  refine ⟨f, fd, F.ok (k := 2) sc_law_gapM (fun vs H Q E h => by first | (obtain ⟨_, _, rfl, _⟩ := h; rfl) | (obtain ⟨_, _, _, rfl, _⟩ := h; rfl) | (obtain ⟨_, _, _, _, rfl, _⟩ := h; rfl) | (obtain ⟨_, _, _, _, _, rfl, _⟩ := h; rfl) | (obtain ⟨_, _, _, _, _, _, rfl, _⟩ := h; rfl) | (obtain ⟨_, _, _, _, _, _, _, rfl, _⟩ := h; rfl) | (obtain ⟨_, _, _, _, _, _, _, _, rfl, _⟩ := h; rfl) | (obtain ⟨_, _, _, _, _, _, _, _, _, rfl, _⟩ := h; rfl) | (obtain ⟨_, _, _, _, _, _, _, _, _, _, rfl, _⟩ := h; rfl) | (obtain ⟨_, _, _, _, _, _, _, _, _, _, _, rfl, _⟩ := h; rfl) | (obtain ⟨_, _, _, _, _, _, _, _, _, _, _, _, rfl, _⟩ := h; rfl) | (obtain ⟨_, _, _, _, _, _, _, _, _, _, _, _, _, rfl, _⟩ := h; rfl) | (obtain ⟨_, _, _, _, _, _, _, _, _, _, _, _, _, _, rfl, _⟩ := h; rfl) | (obtain ⟨_, _, _, _, _, _, _, _, _, _, _, _, _, _, _, rfl, _⟩ := h; rfl)) (fun cdv A outer s H vs Q E hr h => ⟨t_law_gapM K, PSs.nox ?_, r_law_gapM h⟩), g, F.kp, F.bindsN fun _ _ _ _ _ _ us hl => match us, hl with | [_, _, _], _ => rfl⟩
  exact (pss_fg (pss_cons (ps_set (i := 3) sc_law_gapM.nd rfl (Or.inl rfl) (pe_callB (call_max2 rfl) (by rfl) m_max (by decide +kernel) (pa_cons pe_int (pa_cons (pe_fn F_law_number (hr.mono (by decide)) (pa_cons (pv 0) (pa_cons (pv 2) pa_nil))) pa_nil))))
      (pss_cons (ps_set (i := 4) sc_law_gapM.nd rfl (Or.inl rfl) (pe_fn F_law_last (hr.mono (by decide)) (pa_cons (pv 1) (pa_cons (pe_op op_add (pv 3) pe_int) pa_nil))))
      (pss_cons (ps_set (i := 5) sc_law_gapM.nd rfl (Or.inl rfl) (pe_callB (call_min2 rfl) (by rfl) m_min (by decide +kernel) (pa_cons (pe_op op_add (pv 2) pe_int) (pa_cons (pe_fn F_law_next (hr.mono (by decide)) (pa_cons (pv 1) (pa_cons (pv 3) pa_nil))) pa_nil))))
      (pss_cons (ps_set (i := 4) sc_law_gapM.nd rfl (Or.inl rfl) (pe_ifExp (pt_cmpR op_isN (pv 4) pe_non (nomark _)) pe_int (pv 4)))
      (pss_cons (ps_set (i := 6) sc_law_gapM.nd rfl (Or.inl rfl) (pe_fn F_law_take (hr.mono (by decide)) (pa_cons (pv 0) (pa_cons pe_int pa_nil))))
      (pss_cons (ps_if (pt_cmpR op_eq (pv 6) pe_int (nomark _)) (pss_one (ps_ret (pe_tup (pa_cons (pv 3) (pa_cons (pe_fn F_law_number (hr.mono (by decide)) (pa_cons (pv 0) (pa_cons (pv 2) pa_nil))) pa_nil))))) pss_nil)
      (pss_cons (ps_if (pt_cmpR op_eq (pv 6) pe_int (nomark _)) (pss_one (ps_ret (pe_tup (pa_cons (pe_callB (call_max2 rfl) (by rfl) m_max (by decide +kernel) (pa_cons pe_int (pa_cons (pe_op op_sub (pv 4) (pe_fn F_law_take (hr.mono (by decide)) (pa_cons (pv 0) (pa_cons pe_int pa_nil)))) pa_nil))) (pa_cons (pe_callB (call_min2 rfl) (by rfl) m_min (by decide +kernel) (pa_cons (pv 2) (pa_cons (pe_op op_add (pv 5) (pe_fn F_law_take (hr.mono (by decide)) (pa_cons (pv 0) (pa_cons pe_int pa_nil)))) pa_nil))) pa_nil))))) pss_nil)
      (pss_cons (ps_set (i := 7) sc_law_gapM.nd rfl (Or.inl rfl) (pe_op op_add (pe_op op_add (pe_op op_mulW (pe_fn F_law_take (hr.mono (by decide)) (pa_cons (pv 0) (pa_cons pe_int pa_nil))) (pe_op op_pow pe_int pe_int)) (pe_op op_mulW (pe_fn F_law_take (hr.mono (by decide)) (pa_cons (pv 0) (pa_cons pe_int pa_nil))) (pe_op op_pow pe_int pe_int))) (pe_fn F_law_take (hr.mono (by decide)) (pa_cons (pv 0) (pa_cons pe_int pa_nil)))))
      (pss_cons (ps_if (pt_cmpR op_eq (pv 6) pe_int (nomark _)) (pss_one (ps_ret (pe_tup (pa_cons (pv 3) (pa_cons (pe_op op_mod (pv 7) (pv 3)) pa_nil))))) pss_nil)
      (pss_cons (ps_if (pt_cmpR op_eq (pv 4) (pv 2) (nomark _)) (pss_one (ps_ret (pe_tup (pa_cons (pv 2) (pa_cons (pv 2) pa_nil))))) pss_nil)
      (pss_cons (ps_if (pt_cmpR op_lt (pv 6) pe_int (nomark _)) (pss_one (ps_ret (pe_tup (pa_cons (pe_op op_add (pv 4) pe_int) (pa_cons (pe_callB (call_min2 rfl) (by rfl) m_min (by decide +kernel) (pa_cons (pv 2) (pa_cons (pe_callB (call_max2 rfl) (by rfl) m_max (by decide +kernel) (pa_cons (pe_op op_add (pv 4) pe_int) (pa_cons (pe_op op_sub (pv 5) pe_int) pa_nil))) pa_nil))) pa_nil))))) pss_nil)
      (pss_cons (ps_if (pt_cmpR op_eq (pv 6) pe_int (nomark _)) (pss_one (ps_ret (pe_tup (pa_cons (pv 3) (pa_cons (pe_callB (call_min2 rfl) (by rfl) m_min (by decide +kernel) (pa_cons (pv 2) (pa_cons (pe_op op_add (pv 3) (pe_fn F_law_take (hr.mono (by decide)) (pa_cons (pv 0) (pa_cons pe_int pa_nil)))) pa_nil))) pa_nil))))) pss_nil)
      (pss_cons (ps_if (pt_cmpR op_eq (pv 6) pe_int (nomark _)) (pss_one (ps_ret (pe_tup (pa_cons (pe_callB (call_max2 rfl) (by rfl) m_max (by decide +kernel) (pa_cons pe_int (pa_cons (pv 4) pa_nil))) (pa_cons (pe_callB (call_min2 rfl) (by rfl) m_min (by decide +kernel) (pa_cons (pv 2) (pa_cons (pe_op op_sub (pv 5) pe_int) pa_nil))) pa_nil))))) pss_nil)
      (pss_cons (ps_if (pt_cmpR op_eq (pv 6) pe_int (nomark _)) (pss_one (ps_ret (pe_tup (pa_cons (pe_op op_add (pv 4) pe_int) (pa_cons (pe_callB (call_min2 rfl) (by rfl) m_min (by decide +kernel) (pa_cons (pv 2) (pa_cons (pv 5) pa_nil))) pa_nil))))) pss_nil)
      (pss_cons (ps_if (pt_cmpR op_eq (pv 6) pe_int (nomark _)) (pss_one (ps_ret (pe_tup (pa_cons (pv 3) (pa_cons (pe_op op_sub (pe_op op_sub (pv 3) pe_int) (pe_op op_mod (pe_fn F_law_take (hr.mono (by decide)) (pa_cons (pv 0) (pa_cons pe_int pa_nil))) (pv 3))) pa_nil))))) pss_nil)
      (pss_cons (ps_set (i := 8) sc_law_gapM.nd rfl (Or.inl rfl) (pe_op op_add (pe_op op_add (pv 4) pe_int) (pe_op op_mod (pv 7) (pe_callB (call_max2 rfl) (by rfl) m_max (by decide +kernel) (pa_cons pe_int (pa_cons (pe_op op_sub (pe_op op_sub (pv 5) (pv 4)) pe_int) pa_nil))))))
      (pss_one (ps_ret (pe_tup (pa_cons (pv 8) (pa_cons (pe_callB (call_min2 rfl) (by rfl) m_min (by decide +kernel) (pa_cons (pv 2) (pa_cons (pe_callB (call_max2 rfl) (by rfl) m_max (by decide +kernel) (pa_cons (pv 8) (pa_cons (pe_op op_sub (pe_op op_sub (pv 5) pe_int) (pe_fn F_law_take (hr.mono (by decide)) (pa_cons (pv 0) (pa_cons pe_int pa_nil)))) pa_nil))) pa_nil))) pa_nil))))))))))))))))))))))
theorem ok_law_all (F : FnP K "_law_all" s_law_all f fd) (g : mg "_law_all" = some (.ref f)) (F_law_made : Fn P w K mg base "_law_made" 1 ["row", "bound"] (sp_law_made K)) : Fn P w K mg base "_law_all" 2 ["row", "low", "high"] (sp_law_all K) := by
  refine ⟨f, fd, F.ok (k := 1) sc_law_all (fun vs H Q E h => by first | (obtain ⟨_, _, rfl, _⟩ := h; rfl) | (obtain ⟨_, _, _, rfl, _⟩ := h; rfl) | (obtain ⟨_, _, _, _, rfl, _⟩ := h; rfl) | (obtain ⟨_, _, _, _, _, rfl, _⟩ := h; rfl) | (obtain ⟨_, _, _, _, _, _, rfl, _⟩ := h; rfl) | (obtain ⟨_, _, _, _, _, _, _, rfl, _⟩ := h; rfl) | (obtain ⟨_, _, _, _, _, _, _, _, rfl, _⟩ := h; rfl) | (obtain ⟨_, _, _, _, _, _, _, _, _, rfl, _⟩ := h; rfl) | (obtain ⟨_, _, _, _, _, _, _, _, _, _, rfl, _⟩ := h; rfl) | (obtain ⟨_, _, _, _, _, _, _, _, _, _, _, rfl, _⟩ := h; rfl) | (obtain ⟨_, _, _, _, _, _, _, _, _, _, _, _, rfl, _⟩ := h; rfl) | (obtain ⟨_, _, _, _, _, _, _, _, _, _, _, _, _, rfl, _⟩ := h; rfl) | (obtain ⟨_, _, _, _, _, _, _, _, _, _, _, _, _, _, rfl, _⟩ := h; rfl) | (obtain ⟨_, _, _, _, _, _, _, _, _, _, _, _, _, _, _, rfl, _⟩ := h; rfl)) (fun cdv A outer s H vs Q E hr h => ⟨t_law_all K, PSs.nox ?_, r_law_all h⟩), g, F.kp, F.bindsN fun _ _ _ _ _ _ us hl => match us, hl with | [_, _, _], _ => rfl⟩
  exact (pss_fg (pss_cons (ps_set (i := 3) sc_law_all.nd rfl (Or.inl rfl) (pe_lst pa_nil))
      (pss_cons (ps_for PassesOwn.never rfl (pi_list (pe_fn F_law_made (hr.mono (by decide)) (pa_cons (pe_slice sl_list (pv 0) (po_some pe_int) po_none) (pa_cons (pv 2) pa_nil)))) (pg_name (i := 4) sc_law_all.nd rfl (Or.inl rfl)) (pss_cons (ps_set (i := 5) sc_law_all.nd rfl (Or.inl rfl) (pe_un un_neg pe_int))
      (pss_cons (ps_set (i := 6) sc_law_all.nd rfl (Or.inl rfl) (pv 4))
      (pss_cons (ps_while PassesOwn.never (pt_cmpR op_lt (pv 6) (pv 1) (nomark _)) (pss_cons (ps_set (i := 6) sc_law_all.nd rfl (Or.inl rfl) (pe_op op_mulW (pv 6) (pe_ix ix_list (pv 0) pe_int (fun _ _ => rfl))))
      (pss_one (ps_set (i := 5) sc_law_all.nd rfl (Or.inl rfl) (pe_op op_add (pv 5) pe_int)))))
      (pss_one (ps_expr (pe_bm PySem.F.plainAttrs_list PySem.F.slot_list_append PySem.F.type_list_append mt_append (pv 3) (pa_cons (pe_tup (pa_cons (pv 4) (pa_cons (pv 5) pa_nil))) pa_nil))))))))
      (pss_one (ps_ret (pv 3))))))
theorem ok_law_whole (F : FnP K "_law_whole" s_law_whole f fd) (g : mg "_law_whole" = some (.ref f)) (m_bool : mg "bool" = none) (m_int : mg "int" = none) (m_isinstance : mg "isinstance" = none) : Fn P w K mg base "_law_whole" 1 ["thing"] (sp_law_whole K) := by
  refine ⟨f, fd, F.ok (k := 0) sc_law_whole (fun vs H Q E h => by first | (obtain ⟨_, _, rfl, _⟩ := h; rfl) | (obtain ⟨_, _, _, rfl, _⟩ := h; rfl) | (obtain ⟨_, _, _, _, rfl, _⟩ := h; rfl) | (obtain ⟨_, _, _, _, _, rfl, _⟩ := h; rfl) | (obtain ⟨_, _, _, _, _, _, rfl, _⟩ := h; rfl) | (obtain ⟨_, _, _, _, _, _, _, rfl, _⟩ := h; rfl) | (obtain ⟨_, _, _, _, _, _, _, _, rfl, _⟩ := h; rfl) | (obtain ⟨_, _, _, _, _, _, _, _, _, rfl, _⟩ := h; rfl) | (obtain ⟨_, _, _, _, _, _, _, _, _, _, rfl, _⟩ := h; rfl) | (obtain ⟨_, _, _, _, _, _, _, _, _, _, _, rfl, _⟩ := h; rfl) | (obtain ⟨_, _, _, _, _, _, _, _, _, _, _, _, rfl, _⟩ := h; rfl) | (obtain ⟨_, _, _, _, _, _, _, _, _, _, _, _, _, rfl, _⟩ := h; rfl) | (obtain ⟨_, _, _, _, _, _, _, _, _, _, _, _, _, _, rfl, _⟩ := h; rfl) | (obtain ⟨_, _, _, _, _, _, _, _, _, _, _, _, _, _, _, rfl, _⟩ := h; rfl)) (fun cdv A outer s H vs Q E hr h => ⟨t_law_whole K, PSs.nox ?_, r_law_whole h⟩), g, F.kp, F.bindsN fun _ _ _ _ _ _ us hl => match us, hl with | [_], _ => rfl⟩
  exact (pss_fg (pss_one (ps_ret (pe_and (pe_callB call_isW (by rfl) m_isinstance (by decide +kernel) (pa_cons (pv 0) (pa_cons (pe_bltn (v := .ty "int") (by rfl) m_int (by decide +kernel) rfl) pa_nil))) (pe_one (pe_not (pe_callB call_isW (by rfl) m_isinstance (by decide +kernel) (pa_cons (pv 0) (pa_cons (pe_bltn (v := .ty "bool") (by rfl) m_bool (by decide +kernel) rfl) pa_nil)))))))))
theorem ok_law_bent (F : FnP K "_law_bent" s_law_bent f fd) (g : mg "_law_bent" = some (.ref f)) (F_law_whole : Fn P w K mg base "_law_whole" 1 ["thing"] (sp_law_whole K)) (F_law_take : Fn P w K mg base "_law_take" 1 ["draws", "many"] (sp_law_take K)) (m_isinstance : mg "isinstance" = none) (m_len : mg "len" = none) (m_list : mg "list" = none) (m_str : mg "str" = none) (m_tuple : mg "tuple" = none) : Fn P w K mg base "_law_bent" 2 ["draws", "one"] (sp_law_bent K) := by
  refine ⟨f, fd, F.ok (k := 1) sc_law_bent (fun vs H Q E h => by first | (obtain ⟨_, _, rfl, _⟩ := h; rfl) | (obtain ⟨_, _, _, rfl, _⟩ := h; rfl) | (obtain ⟨_, _, _, _, rfl, _⟩ := h; rfl) | (obtain ⟨_, _, _, _, _, rfl, _⟩ := h; rfl) | (obtain ⟨_, _, _, _, _, _, rfl, _⟩ := h; rfl) | (obtain ⟨_, _, _, _, _, _, _, rfl, _⟩ := h; rfl) | (obtain ⟨_, _, _, _, _, _, _, _, rfl, _⟩ := h; rfl) | (obtain ⟨_, _, _, _, _, _, _, _, _, rfl, _⟩ := h; rfl) | (obtain ⟨_, _, _, _, _, _, _, _, _, _, rfl, _⟩ := h; rfl) | (obtain ⟨_, _, _, _, _, _, _, _, _, _, _, rfl, _⟩ := h; rfl) | (obtain ⟨_, _, _, _, _, _, _, _, _, _, _, _, rfl, _⟩ := h; rfl) | (obtain ⟨_, _, _, _, _, _, _, _, _, _, _, _, _, rfl, _⟩ := h; rfl) | (obtain ⟨_, _, _, _, _, _, _, _, _, _, _, _, _, _, rfl, _⟩ := h; rfl) | (obtain ⟨_, _, _, _, _, _, _, _, _, _, _, _, _, _, _, rfl, _⟩ := h; rfl)) (fun cdv A outer s H vs Q E hr h => ⟨t_law_bent K, PSs.nox ?_, r_law_bent h⟩), g, F.kp, F.bindsN fun _ _ _ _ _ _ us hl => match us, hl with | [_, _], _ => rfl⟩
  exact (pss_fg (pss_cons (ps_if (PW.pt (pw_or (pt_not (pt_val (pe_callB call_isW (by rfl) m_isinstance (by decide +kernel) (pa_cons (pv 1) (pa_cons (pe_bltn (v := .ty "tuple") (by rfl) m_tuple (by decide +kernel) rfl) pa_nil))))) (pw_or (pt_cmpR op_ne (pe_callB call_len_seq (by rfl) m_len (by decide +kernel) (pa_cons (pv 1) pa_nil)) pe_int (nomark _)) (pw_or (pt_not (pt_val (pe_fn F_law_whole (hr.mono (by decide)) (pa_cons (pe_ix ix_tup (pv 1) pe_int (fun _ _ => rfl)) pa_nil)))) (pw_or1 (pt_not (pt_val (pe_fn F_law_whole (hr.mono (by decide)) (pa_cons (pe_ix ix_tup (pv 1) pe_int (fun _ _ => rfl)) pa_nil))))))))) (pss_one (ps_ret (pe_tup (pa_cons pe_int (pa_cons pe_int pa_nil))))) pss_nil)
      (pss_cons (ps_set (i := 2) sc_law_bent.nd rfl (Or.inl rfl) (pe_fn F_law_take (hr.mono (by decide)) (pa_cons (pv 0) (pa_cons pe_int pa_nil))))
      (pss_cons (ps_set (i := 3) sc_law_bent.nd rfl (Or.inl rfl) (pe_ix ix_tup (pv 1) (pv 2) (fun _ _ => rfl)))
      (pss_cons (ps_set (i := 4) sc_law_bent.nd rfl (Or.inl rfl) (pe_lst (pa_cons (pe_op op_add (pv 3) pe_int) (pa_cons (pe_op op_sub (pv 3) pe_int) (pa_cons (pe_op op_add (pv 3) pe_int) (pa_cons pe_int (pa_cons (pe_un un_neg pe_int) (pa_cons (pe_fn F_law_take (hr.mono (by decide)) (pa_cons (pv 0) (pa_cons pe_int pa_nil))) (pa_cons (pe_cmpR op_eq (pv 3) pe_int (nomark _)) (pa_cons (pe_callTy call_str_int (by rfl) m_str (by decide +kernel) (pa_cons (pv 3) pa_nil)) (pa_cons pe_non (pa_cons (pe_lst (pa_cons (pv 3) pa_nil)) pa_nil))))))))))))
      (pss_cons (ps_set (i := 5) sc_law_bent.nd rfl (Or.inl rfl) (pe_ix ix_list (pv 4) (pe_fn F_law_take (hr.mono (by decide)) (pa_cons (pv 0) (pa_cons pe_int pa_nil))) (fun _ _ => rfl)))
      (pss_cons (ps_set (i := 6) sc_law_bent.nd rfl (Or.inl rfl) (pe_ix ix_list (pe_lst (pa_cons (pe_tup (pa_cons (pv 5) (pa_cons (pe_ix ix_tup (pv 1) pe_int (fun _ _ => rfl)) pa_nil))) (pa_cons (pe_tup (pa_cons (pe_ix ix_tup (pv 1) pe_int (fun _ _ => rfl)) (pa_cons (pv 5) pa_nil))) pa_nil))) (pv 2) (fun _ _ => rfl)))
      (pss_one (ps_ret (pe_ix ix_list (pe_lst (pa_cons (pv 6) (pa_cons (pv 6) (pa_cons (pv 6) (pa_cons (pv 6) (pa_cons (pe_callTy call_list_of (by rfl) m_list (by decide +kernel) (pa_cons (pv 1) pa_nil)) (pa_cons (pe_op op_catT (pv 1) (pe_tup (pa_cons pe_int pa_nil))) (pa_cons (pe_slice sl_tup (pv 1) po_none (po_some pe_int)) (pa_cons (pe_revT (pv 1)) pa_nil))))))))) (pe_fn F_law_take (hr.mono (by decide)) (pa_cons (pv 0) (pa_cons pe_int pa_nil))) (fun _ _ => rfl)))))))))))
theorem ok_law_spoilt (F : FnP K "_law_spoilt" s_law_spoilt f fd) (g : mg "_law_spoilt" = some (.ref f)) (F_law_take : Fn P w K mg base "_law_take" 1 ["draws", "many"] (sp_law_take K)) (F_law_bent : Fn P w K mg base "_law_bent" 2 ["draws", "one"] (sp_law_bent K)) (m_len : mg "len" = none) : Fn P w K mg base "_law_spoilt" 3 ["draws", "given"] (sp_law_spoilt K) := by
  refine ⟨f, fd, F.ok (k := 2) sc_law_spoilt (fun vs H Q E h => by first | (obtain ⟨_, _, rfl, _⟩ := h; rfl) | (obtain ⟨_, _, _, rfl, _⟩ := h; rfl) | (obtain ⟨_, _, _, _, rfl, _⟩ := h; rfl) | (obtain ⟨_, _, _, _, _, rfl, _⟩ := h; rfl) | (obtain ⟨_, _, _, _, _, _, rfl, _⟩ := h; rfl) | (obtain ⟨_, _, _, _, _, _, _, rfl, _⟩ := h; rfl) | (obtain ⟨_, _, _, _, _, _, _, _, rfl, _⟩ := h; rfl) | (obtain ⟨_, _, _, _, _, _, _, _, _, rfl, _⟩ := h; rfl) | (obtain ⟨_, _, _, _, _, _, _, _, _, _, rfl, _⟩ := h; rfl) | (obtain ⟨_, _, _, _, _, _, _, _, _, _, _, rfl, _⟩ := h; rfl) | (obtain ⟨_, _, _, _, _, _, _, _, _, _, _, _, rfl, _⟩ := h; rfl) | (obtain ⟨_, _, _, _, _, _, _, _, _, _, _, _, _, rfl, _⟩ := h; rfl) | (obtain ⟨_, _, _, _, _, _, _, _, _, _, _, _, _, _, rfl, _⟩ := h; rfl) | (obtain ⟨_, _, _, _, _, _, _, _, _, _, _, _, _, _, _, rfl, _⟩ := h; rfl)) (fun cdv A outer s H vs Q E hr h => ⟨t_law_spoilt K, PSs.nox ?_, r_law_spoilt h⟩), g, F.kp, F.bindsN fun _ _ _ _ _ _ us hl => match us, hl with | [_, _], _ => rfl⟩
  exact (pss_fg (pss_cons (ps_set (i := 2) sc_law_spoilt.nd rfl (Or.inl rfl) (pe_op op_mod (pe_op op_add (pe_op op_mulW (pe_fn F_law_take (hr.mono (by decide)) (pa_cons (pv 0) (pa_cons pe_int pa_nil))) pe_int) (pe_fn F_law_take (hr.mono (by decide)) (pa_cons (pv 0) (pa_cons pe_int pa_nil)))) (pe_op op_add (pe_callB call_len_seq (by rfl) m_len (by decide +kernel) (pa_cons (pv 1) pa_nil)) pe_int)))
      (pss_cons (ps_set (i := 3) sc_law_spoilt.nd rfl (Or.inl rfl) (pe_fn F_law_take (hr.mono (by decide)) (pa_cons (pv 0) (pa_cons pe_int pa_nil))))
      (pss_cons (ps_if (pt_cmpR op_eq (pv 3) pe_int (nomark _)) (pss_one (ps_ret (pe_op op_cat (pe_slice sl_list (pv 1) po_none (po_some (pv 2))) (pe_slice sl_list (pv 1) (po_some (pe_op op_add (pv 2) pe_int)) po_none)))) pss_nil)
      (pss_cons (ps_if (pt_cmpR op_eq (pv 3) pe_int (nomark _)) (pss_one (ps_ret (pe_op op_cat (pe_op op_cat (pe_slice sl_list (pv 1) po_none (po_some (pv 2))) (pe_op op_rep (pe_slice sl_list (pv 1) (po_some (pv 2)) (po_some (pe_op op_add (pv 2) pe_int))) pe_int)) (pe_slice sl_list (pv 1) (po_some (pe_op op_add (pv 2) pe_int)) po_none)))) pss_nil)
      (pss_cons (ps_if (pt_cmpR op_eq (pv 3) pe_int (nomark _)) (pss_one (ps_ret (pe_op op_cat (pe_op op_cat (pe_slice sl_list (pv 1) po_none (po_some (pv 2))) (pe_revL (pe_slice sl_list (pv 1) (po_some (pv 2)) (po_some (pe_op op_add (pv 2) pe_int))))) (pe_slice sl_list (pv 1) (po_some (pe_op op_add (pv 2) pe_int)) po_none)))) pss_nil)
      (pss_cons (ps_if (PW.pt (pw_or (pt_cmpR op_eq (pv 3) pe_int (nomark _)) (pw_or1 (pt_cmpR (op_eqX hr.units) (pv 1) (pe_lst pa_nil) (nomark _))))) (pss_cons (ps_set (i := 4) sc_law_spoilt.nd rfl (Or.inl rfl) (pe_ix ix_list (pe_lst (pa_cons pe_non (pa_cons pe_int (pa_cons (pe_tup pa_nil) (pa_cons (pe_lst pa_nil) (pa_cons pe_dnewK (pa_cons pe_str (pa_cons (pe_tup (pa_cons pe_int (pa_cons pe_int pa_nil))) (pa_cons (pe_tup (pa_cons pe_int (pa_cons pe_int pa_nil))) (pa_cons (pe_tup (pa_cons pe_int (pa_cons (pe_un un_neg pe_int) pa_nil))) (pa_cons pe_bl pa_nil))))))))))) (pe_fn F_law_take (hr.mono (by decide)) (pa_cons (pv 0) (pa_cons pe_int pa_nil))) (fun _ _ => rfl)))
      (pss_one (ps_ret (pe_op op_cat (pe_op op_cat (pe_slice sl_list (pv 1) po_none (po_some (pv 2))) (pe_lst (pa_cons (pv 4) pa_nil))) (pe_slice sl_list (pv 1) (po_some (pe_op op_add (pv 2) (pe_fn F_law_take (hr.mono (by decide)) (pa_cons (pv 0) (pa_cons pe_int pa_nil))))) po_none))))) pss_nil)
      (pss_cons (ps_set (i := 2) sc_law_spoilt.nd rfl (Or.inl rfl) (pe_op op_mod (pv 2) (pe_callB call_len_seq (by rfl) m_len (by decide +kernel) (pa_cons (pv 1) pa_nil))))
      (pss_one (ps_ret (pe_op op_cat (pe_op op_cat (pe_slice sl_list (pv 1) po_none (po_some (pv 2))) (pe_lst (pa_cons (pe_fn F_law_bent (hr.mono (by decide)) (pa_cons (pv 0) (pa_cons (pe_ix ix_list (pv 1) (pv 2) (fun _ _ => rfl)) pa_nil))) pa_nil))) (pe_slice sl_list (pv 1) (po_some (pe_op op_add (pv 2) pe_int)) po_none))))))))))))
theorem ok_law_things (F : FnP K "_law_things" s_law_things f fd) (g : mg "_law_things" = some (.ref f)) (F_law_all : Fn P w K mg base "_law_all" 2 ["row", "low", "high"] (sp_law_all K)) (F_law_spoilt : Fn P w K mg base "_law_spoilt" 3 ["draws", "given"] (sp_law_spoilt K)) (m_dict : mg "dict" = none) (m_list : mg "list" = none) (m_max : mg "max" = none) (m_str : mg "str" = none) (m_tuple : mg "tuple" = none) (hS : sysB K = true) : Gn1 P w K mg base "_law_things" 4 ["draws", "row", "low", "high"] (sp_law_things K) := by
  refine ⟨f, fd, gn_of F (k := 3) sc_law_things (fun vs H Q E h => by first | (obtain ⟨_, _, rfl, _⟩ := h; rfl) | (obtain ⟨_, _, _, rfl, _⟩ := h; rfl) | (obtain ⟨_, _, _, _, rfl, _⟩ := h; rfl) | (obtain ⟨_, _, _, _, _, rfl, _⟩ := h; rfl) | (obtain ⟨_, _, _, _, _, _, rfl, _⟩ := h; rfl) | (obtain ⟨_, _, _, _, _, _, _, rfl, _⟩ := h; rfl) | (obtain ⟨_, _, _, _, _, _, _, _, rfl, _⟩ := h; rfl) | (obtain ⟨_, _, _, _, _, _, _, _, _, rfl, _⟩ := h; rfl) | (obtain ⟨_, _, _, _, _, _, _, _, _, _, rfl, _⟩ := h; rfl) | (obtain ⟨_, _, _, _, _, _, _, _, _, _, _, rfl, _⟩ := h; rfl) | (obtain ⟨_, _, _, _, _, _, _, _, _, _, _, _, rfl, _⟩ := h; rfl) | (obtain ⟨_, _, _, _, _, _, _, _, _, _, _, _, _, rfl, _⟩ := h; rfl) | (obtain ⟨_, _, _, _, _, _, _, _, _, _, _, _, _, _, rfl, _⟩ := h; rfl) | (obtain ⟨_, _, _, _, _, _, _, _, _, _, _, _, _, _, _, rfl, _⟩ := h; rfl)) (fun cdv A outer s H vs Q E hr hc h => ⟨t_law_things K, PSs.nox ?_, r_law_things h⟩), g, F.kp, F.bindsN fun _ _ _ _ _ _ us hl => match us, hl with | [_, _, _, _], _ => rfl⟩
  exact (pss_fg (pss_cons (ps_set (i := 4) sc_law_things.nd rfl (Or.inl rfl) (pe_fn F_law_all (hr.mono (by decide)) (pa_cons (pv 1) (pa_cons (pv 2) (pa_cons (pv 3) pa_nil)))))
      (pss_cons (ps_set (i := 5) sc_law_things.nd rfl (Or.inl rfl) (pe_fn F_law_spoilt (hr.mono (by decide)) (pa_cons (pv 0) (pa_cons (pv 4) pa_nil))))
      (pss_cons (ps_set (i := 6) sc_law_things.nd rfl (Or.inl rfl) (pe_lst (pa_cons (pv 4) (pa_cons (pv 5) (pa_cons (pe_fn F_law_spoilt (hr.mono (by decide)) (pa_cons (pv 0) (pa_cons (pv 5) pa_nil))) (pa_cons (pe_fn F_law_spoilt (hr.mono (by decide)) (pa_cons (pv 0) (pa_cons (pv 4) pa_nil))) (pa_cons (pe_lst pa_nil) (pa_cons (pe_slice sl_list (pv 4) po_none (po_some (pe_un un_neg pe_int))) (pa_cons (pe_op op_cat (pv 4) (pe_lst (pa_cons (pe_tup (pa_cons (pe_op op_add (pv 3) pe_int) (pa_cons (pe_un un_neg pe_int) pa_nil))) pa_nil))) pa_nil)))))))))
      (pss_cons (ps_set (i := 6) sc_law_things.nd rfl (Or.inl rfl) (pe_op op_cat (pv 6) (pe_lst (pa_cons (pe_fn F_law_all (hr.mono (by decide)) (pa_cons (pv 1) (pa_cons (pe_callB (call_max2 rfl) (by rfl) m_max (by decide +kernel) (pa_cons pe_int (pa_cons (pe_op op_sub (pv 2) pe_int) pa_nil))) (pa_cons (pv 3) pa_nil)))) (pa_cons (pe_fn F_law_all (hr.mono (by decide)) (pa_cons (pv 1) (pa_cons (pe_op op_add (pv 2) pe_int) (pa_cons (pv 3) pa_nil)))) pa_nil)))))
      (pss_cons (ps_expr (pe_bm PySem.F.plainAttrs_list PySem.F.slot_list_append PySem.F.type_list_append mt_append (pv 6) (pa_cons (pe_fn F_law_all (hr.mono (by decide)) (pa_cons (pv 1) (pa_cons (pv 2) (pa_cons (pe_callB (call_max2 rfl) (by rfl) m_max (by decide +kernel) (pa_cons pe_int (pa_cons (pe_op op_sub (pv 3) pe_int) pa_nil))) pa_nil)))) pa_nil)))
      (pss_cons (ps_set (i := 6) sc_law_things.nd rfl (Or.inl rfl) (pe_op op_cat (pv 6) (pe_lst (pa_cons (pe_revL (pv 4)) (pa_cons (pe_callTy call_tuple_of (by rfl) m_tuple (by decide +kernel) (pa_cons (pv 4) pa_nil)) (pa_cons (pe_lst (pa_cons (pv 4) pa_nil)) (pa_cons (pe_callTy (call_dictP rfl) (by rfl) m_dict (by decide +kernel) (pa_cons (pv 4) pa_nil)) (pa_cons (pe_callTy (call_strQ hS hr hc) (by rfl) m_str (by decide +kernel) (pa_cons (pv 4) pa_nil)) (pa_cons (pe_lc (own := [("one", 7)]) (g := (gName 7)) (tt := tYes) rfl sc_law_things.nd (pi_list (pv 4)) (blkOk_by (N := N_law_things) (sc := defScope s_law_things) (by decide +kernel)) (fun _ _ _ _ _ => (pg_name (i := 7) sc_law_things.nd rfl (Or.inl rfl))) (fun _ _ _ _ _ => pts_nil) (fun _ _ _ _ _ => (pe_callTy call_list_of (by rfl) m_list (by decide +kernel) (pa_cons (pv 7) pa_nil)))) pa_nil)))))))))
      (pss_one (ps_ret (pe_op op_cat (pv 6) (pe_lst (pa_cons pe_non (pa_cons pe_int (pa_cons pe_bl (pa_cons pe_str (pa_cons (pe_tup pa_nil) (pa_cons pe_dnewK (pa_cons (pe_lst (pa_cons (pe_lst pa_nil) pa_nil)) (pa_cons (pe_lst (pa_cons pe_non pa_nil)) (pa_cons (pe_lst (pa_cons (pe_tup (pa_cons pe_int pa_nil)) pa_nil)) (pa_cons (pe_lst (pa_cons (pe_tup (pa_cons pe_int (pa_cons pe_int pa_nil))) pa_nil)) (pa_cons (pe_lst (pa_cons (pe_tup (pa_cons pe_int (pa_cons (pe_un un_neg pe_int) pa_nil))) pa_nil)) pa_nil))))))))))))))))))))))
theorem ok_is_whole (F : FnP K "is_whole" s_is_whole f fd) (g : mg "is_whole" = some (.ref f)) (m_bool : mg "bool" = none) (m_int : mg "int" = none) (m_isinstance : mg "isinstance" = none) : Fn P w K mg base "is_whole" 1 ["thing"] (sp_is_whole K) := by
  refine ⟨f, fd, F.ok (k := 0) sc_is_whole (fun vs H Q E h => by first | (obtain ⟨_, _, rfl, _⟩ := h; rfl) | (obtain ⟨_, _, _, rfl, _⟩ := h; rfl) | (obtain ⟨_, _, _, _, rfl, _⟩ := h; rfl) | (obtain ⟨_, _, _, _, _, rfl, _⟩ := h; rfl) | (obtain ⟨_, _, _, _, _, _, rfl, _⟩ := h; rfl) | (obtain ⟨_, _, _, _, _, _, _, rfl, _⟩ := h; rfl) | (obtain ⟨_, _, _, _, _, _, _, _, rfl, _⟩ := h; rfl) | (obtain ⟨_, _, _, _, _, _, _, _, _, rfl, _⟩ := h; rfl) | (obtain ⟨_, _, _, _, _, _, _, _, _, _, rfl, _⟩ := h; rfl) | (obtain ⟨_, _, _, _, _, _, _, _, _, _, _, rfl, _⟩ := h; rfl) | (obtain ⟨_, _, _, _, _, _, _, _, _, _, _, _, rfl, _⟩ := h; rfl) | (obtain ⟨_, _, _, _, _, _, _, _, _, _, _, _, _, rfl, _⟩ := h; rfl) | (obtain ⟨_, _, _, _, _, _, _, _, _, _, _, _, _, _, rfl, _⟩ := h; rfl) | (obtain ⟨_, _, _, _, _, _, _, _, _, _, _, _, _, _, _, rfl, _⟩ := h; rfl)) (fun cdv A outer s H vs Q E hr h => ⟨t_is_whole K, PSs.nox ?_, r_is_whole h⟩), g, F.kp, F.bindsN fun _ _ _ _ _ _ us hl => match us, hl with | [_], _ => rfl⟩
  exact (pss_fg (pss_one (ps_ret (pe_and (pe_callB call_isi (by rfl) m_isinstance (by decide +kernel) (pa_cons (pv 0) (pa_cons (pe_bltn (v := .ty "int") (by rfl) m_int (by decide +kernel) rfl) pa_nil))) (pe_one (pe_not (pe_callB call_isi (by rfl) m_isinstance (by decide +kernel) (pa_cons (pv 0) (pa_cons (pe_bltn (v := .ty "bool") (by rfl) m_bool (by decide +kernel) rfl) pa_nil)))))))))
theorem ok_is_row (F : FnP K "is_row" s_is_row f fd) (g : mg "is_row" = some (.ref f)) (F_is_whole : Fn P w K mg base "is_whole" 1 ["thing"] (sp_is_whole K)) (m_isinstance : mg "isinstance" = none) (m_len : mg "len" = none) (m_list : mg "list" = none) (m_zip : mg "zip" = none) (g_MOST_PRIMES : ∃ t, mg "MOST_PRIMES" = some (.int 6 t)) (g_PRIMES : mg "PRIMES" = some (.ref (He.ga K "PRIMES"))) (hP_PRIMES : PrAt K (He.ga K "PRIMES")) : Fn P w K mg base "is_row" 2 ["thing"] (sp_is_row K) := by
  obtain ⟨_, g_MOST_PRIMES⟩ := g_MOST_PRIMES
  refine ⟨f, fd, F.ok (k := 1) sc_is_row (fun vs H Q E h => by first | (obtain ⟨_, _, rfl, _⟩ := h; rfl) | (obtain ⟨_, _, _, rfl, _⟩ := h; rfl) | (obtain ⟨_, _, _, _, rfl, _⟩ := h; rfl) | (obtain ⟨_, _, _, _, _, rfl, _⟩ := h; rfl) | (obtain ⟨_, _, _, _, _, _, rfl, _⟩ := h; rfl) | (obtain ⟨_, _, _, _, _, _, _, rfl, _⟩ := h; rfl) | (obtain ⟨_, _, _, _, _, _, _, _, rfl, _⟩ := h; rfl) | (obtain ⟨_, _, _, _, _, _, _, _, _, rfl, _⟩ := h; rfl) | (obtain ⟨_, _, _, _, _, _, _, _, _, _, rfl, _⟩ := h; rfl) | (obtain ⟨_, _, _, _, _, _, _, _, _, _, _, rfl, _⟩ := h; rfl) | (obtain ⟨_, _, _, _, _, _, _, _, _, _, _, _, rfl, _⟩ := h; rfl) | (obtain ⟨_, _, _, _, _, _, _, _, _, _, _, _, _, rfl, _⟩ := h; rfl) | (obtain ⟨_, _, _, _, _, _, _, _, _, _, _, _, _, _, rfl, _⟩ := h; rfl) | (obtain ⟨_, _, _, _, _, _, _, _, _, _, _, _, _, _, _, rfl, _⟩ := h; rfl)) (fun cdv A outer s H vs Q E hr h => ⟨t_is_row K (He.ga K "PRIMES"), PSs.nox ?_, r_is_row hP_PRIMES h⟩), g, F.kp, F.bindsN fun _ _ _ _ _ _ us hl => match us, hl with | [_], _ => rfl⟩
  exact (pss_fg (pss_cons (ps_if (PW.pt (pw_or (pt_not (pt_val (pe_callB call_isi (by rfl) m_isinstance (by decide +kernel) (pa_cons (pv 0) (pa_cons (pe_bltn (v := .ty "list") (by rfl) m_list (by decide +kernel) rfl) pa_nil))))) (pw_or1 (pt_not (pt_chain op_le op_le pe_int (pe_callB call_len_seq (by rfl) m_len (by decide +kernel) (pa_cons (pv 0) pa_nil)) (pe_glob (by rfl) g_MOST_PRIMES ⟨_, rfl⟩)))))) (pss_one (ps_ret pe_bl)) pss_nil)
      (pss_cons (ps_if (pt_fg (pt_cmpR (op_neD hr.units) (pe_lc (own := [("one", 1)]) (g := (gName 1)) (tt := (tOr (tNot (tB (tCall (sp_is_whole K) [] E0 (tCons (tVar 1) tNil)))) (tTest (tOp (rIn K true) (tVar 1) (tC (.ref (He.ga K "PRIMES"))))))) rfl sc_is_row.nd (pi_list (pv 0)) (blkOk_by (N := N_is_row) (sc := defScope s_is_row) (by decide +kernel)) (fun _ _ _ _ _ => (pg_name (i := 1) sc_is_row.nd rfl (Or.inl rfl))) (fun _ _ _ _ _ => (pts_one (PW.pt (pw_or (pt_not (pt_val (pe_fn F_is_whole (hr.mono (by decide)) (pa_cons (pv 1) pa_nil)))) (pw_or1 (pt_cmpR op_notIn_seq (pv 1) (pe_glob (by rfl) g_PRIMES rfl) (by with_unfolding_all rfl))))))) (fun _ _ _ _ _ => (pv 1))) (pe_lst pa_nil) (nomark _))) (pss_one (ps_ret pe_bl)) pss_nil)
      (pss_one (ps_ret (pe_fg (pe_cmpR (op_eqD hr.units) (pe_fg (pe_lc (own := [("one", 1), ("further", 2)]) (g := (gTup K 2 (gCons (gName 1) (gCons (gName 2) gNil)))) (tt := (tTest (tOp oLe (tVar 2) (tVar 1)))) rfl sc_is_row.nd (pi_zip (by rfl) m_zip (pa_cons (pv 0) (pa_cons (pe_slice sl_list (pv 0) (po_some pe_int) po_none) pa_nil))) (blkOk_by (N := N_is_row) (sc := defScope s_is_row) (by decide +kernel)) (fun _ _ _ _ _ => (pg_tup rfl (pgs_cons (pg_name (i := 1) sc_is_row.nd rfl (Or.inl rfl)) (pgs_cons (pg_name (i := 2) sc_is_row.nd rfl (Or.inl rfl)) pgs_nil)))) (fun _ _ _ _ _ => (pts_one (pt_cmpR op_le (pv 2) (pv 1) (nomark _)))) (fun _ _ _ _ _ => pe_int))) (pe_lst pa_nil) (nomark _))))))))
theorem ok_need_row (F : FnP K "need_row" s_need_row f fd) (g : mg "need_row" = some (.ref f)) (F_is_row : Fn P w K mg base "is_row" 2 ["thing"] (sp_is_row K)) : Fn P w K mg base "need_row" 3 ["row"] (sp_need_row K) := by
  refine ⟨f, fd, F.ok (k := 2) sc_need_row (fun vs H Q E h => by first | (obtain ⟨_, _, rfl, _⟩ := h; rfl) | (obtain ⟨_, _, _, rfl, _⟩ := h; rfl) | (obtain ⟨_, _, _, _, rfl, _⟩ := h; rfl) | (obtain ⟨_, _, _, _, _, rfl, _⟩ := h; rfl) | (obtain ⟨_, _, _, _, _, _, rfl, _⟩ := h; rfl) | (obtain ⟨_, _, _, _, _, _, _, rfl, _⟩ := h; rfl) | (obtain ⟨_, _, _, _, _, _, _, _, rfl, _⟩ := h; rfl) | (obtain ⟨_, _, _, _, _, _, _, _, _, rfl, _⟩ := h; rfl) | (obtain ⟨_, _, _, _, _, _, _, _, _, _, rfl, _⟩ := h; rfl) | (obtain ⟨_, _, _, _, _, _, _, _, _, _, _, rfl, _⟩ := h; rfl) | (obtain ⟨_, _, _, _, _, _, _, _, _, _, _, _, rfl, _⟩ := h; rfl) | (obtain ⟨_, _, _, _, _, _, _, _, _, _, _, _, _, rfl, _⟩ := h; rfl) | (obtain ⟨_, _, _, _, _, _, _, _, _, _, _, _, _, _, rfl, _⟩ := h; rfl) | (obtain ⟨_, _, _, _, _, _, _, _, _, _, _, _, _, _, _, rfl, _⟩ := h; rfl)) (fun cdv A outer s H vs Q E hr h => ⟨t_need_row K, PSs.nox ?_, r_need_row h⟩), g, F.kp, F.bindsN fun _ _ _ _ _ _ us hl => match us, hl with | [_], _ => rfl⟩
  exact (pss_fg (pss_one (ps_if (pt_not (pt_val (pe_fn F_is_row (hr.mono (by decide)) (pa_cons (pv 0) pa_nil)))) (pss_one ps_never) pss_nil)))
theorem ok_is_made (F : FnP K "is_made" s_is_made f fd) (g : mg "is_made" = some (.ref f))  : Fn P w K mg base "is_made" 1 ["row", "number"] (sp_is_made K) := by
  refine ⟨f, fd, F.ok (k := 0) sc_is_made (fun vs H Q E h => by first | (obtain ⟨_, _, rfl, _⟩ := h; rfl) | (obtain ⟨_, _, _, rfl, _⟩ := h; rfl) | (obtain ⟨_, _, _, _, rfl, _⟩ := h; rfl) | (obtain ⟨_, _, _, _, _, rfl, _⟩ := h; rfl) | (obtain ⟨_, _, _, _, _, _, rfl, _⟩ := h; rfl) | (obtain ⟨_, _, _, _, _, _, _, rfl, _⟩ := h; rfl) | (obtain ⟨_, _, _, _, _, _, _, _, rfl, _⟩ := h; rfl) | (obtain ⟨_, _, _, _, _, _, _, _, _, rfl, _⟩ := h; rfl) | (obtain ⟨_, _, _, _, _, _, _, _, _, _, rfl, _⟩ := h; rfl) | (obtain ⟨_, _, _, _, _, _, _, _, _, _, _, rfl, _⟩ := h; rfl) | (obtain ⟨_, _, _, _, _, _, _, _, _, _, _, _, rfl, _⟩ := h; rfl) | (obtain ⟨_, _, _, _, _, _, _, _, _, _, _, _, _, rfl, _⟩ := h; rfl) | (obtain ⟨_, _, _, _, _, _, _, _, _, _, _, _, _, _, rfl, _⟩ := h; rfl) | (obtain ⟨_, _, _, _, _, _, _, _, _, _, _, _, _, _, _, rfl, _⟩ := h; rfl)) (fun cdv A outer s H vs Q E hr h => ⟨t_is_made K, PSs.nox ?_, r_is_made h⟩), g, F.kp, F.bindsN fun _ _ _ _ _ _ us hl => match us, hl with | [_, _], _ => rfl⟩
  exact (pss_fg (pss_cons (ps_for PassesOwn.never rfl (pi_list (pv 0)) (pg_name (i := 2) sc_is_made.nd rfl (Or.inl rfl)) (pss_one (ps_while PassesOwn.never (pt_cmpR op_eq (pe_op op_mod (pv 1) (pv 2)) pe_int (nomark _)) (pss_one (ps_aug (i := 1) sc_is_made.nd rfl (Or.inl rfl) (pv 2) ip_div)))))
      (pss_one (ps_ret (pe_cmpR op_eq (pv 1) pe_int (nomark _))))))
theorem ok_is_made_of (F : FnP K "is_made_of" s_is_made_of f fd) (g : mg "is_made_of" = some (.ref f)) (F_need_row : Fn P w K mg base "need_row" 3 ["row"] (sp_need_row K)) (F_is_whole : Fn P w K mg base "is_whole" 1 ["thing"] (sp_is_whole K)) (F_is_made : Fn P w K mg base "is_made" 1 ["row", "number"] (sp_is_made K)) : Fn P w K mg base "is_made_of" 4 ["row", "thing"] (sp_is_made_of K) := by
  refine ⟨f, fd, F.ok (k := 3) sc_is_made_of (fun vs H Q E h => by first | (obtain ⟨_, _, rfl, _⟩ := h; rfl) | (obtain ⟨_, _, _, rfl, _⟩ := h; rfl) | (obtain ⟨_, _, _, _, rfl, _⟩ := h; rfl) | (obtain ⟨_, _, _, _, _, rfl, _⟩ := h; rfl) | (obtain ⟨_, _, _, _, _, _, rfl, _⟩ := h; rfl) | (obtain ⟨_, _, _, _, _, _, _, rfl, _⟩ := h; rfl) | (obtain ⟨_, _, _, _, _, _, _, _, rfl, _⟩ := h; rfl) | (obtain ⟨_, _, _, _, _, _, _, _, _, rfl, _⟩ := h; rfl) | (obtain ⟨_, _, _, _, _, _, _, _, _, _, rfl, _⟩ := h; rfl) | (obtain ⟨_, _, _, _, _, _, _, _, _, _, _, rfl, _⟩ := h; rfl) | (obtain ⟨_, _, _, _, _, _, _, _, _, _, _, _, rfl, _⟩ := h; rfl) | (obtain ⟨_, _, _, _, _, _, _, _, _, _, _, _, _, rfl, _⟩ := h; rfl) | (obtain ⟨_, _, _, _, _, _, _, _, _, _, _, _, _, _, rfl, _⟩ := h; rfl) | (obtain ⟨_, _, _, _, _, _, _, _, _, _, _, _, _, _, _, rfl, _⟩ := h; rfl)) (fun cdv A outer s H vs Q E hr h => ⟨t_is_made_of K, PSs.nox ?_, r_is_made_of h⟩), g, F.kp, F.bindsN fun _ _ _ _ _ _ us hl => match us, hl with | [_, _], _ => rfl⟩
  exact (pss_fg (pss_cons (ps_expr (pe_fn F_need_row (hr.mono (by decide)) (pa_cons (pv 0) pa_nil)))
      (pss_one (ps_ret (pe_and (pe_fn F_is_whole (hr.mono (by decide)) (pa_cons (pv 1) pa_nil)) (pe_and (pe_cmpR op_gt (pv 1) pe_int (nomark _)) (pe_one (pe_fn F_is_made (hr.mono (by decide)) (pa_cons (pv 0) (pa_cons (pv 1) pa_nil))))))))))
theorem ok_power_below (F : FnP K "power_below" s_power_below f fd) (g : mg "power_below" = some (.ref f))  : Fn P w K mg base "power_below" 1 ["prime", "rest", "low"] (sp_power_below K) := by
  refine ⟨f, fd, F.ok (k := 0) sc_power_below (fun vs H Q E h => by first | (obtain ⟨_, _, rfl, _⟩ := h; rfl) | (obtain ⟨_, _, _, rfl, _⟩ := h; rfl) | (obtain ⟨_, _, _, _, rfl, _⟩ := h; rfl) | (obtain ⟨_, _, _, _, _, rfl, _⟩ := h; rfl) | (obtain ⟨_, _, _, _, _, _, rfl, _⟩ := h; rfl) | (obtain ⟨_, _, _, _, _, _, _, rfl, _⟩ := h; rfl) | (obtain ⟨_, _, _, _, _, _, _, _, rfl, _⟩ := h; rfl) | (obtain ⟨_, _, _, _, _, _, _, _, _, rfl, _⟩ := h; rfl) | (obtain ⟨_, _, _, _, _, _, _, _, _, _, rfl, _⟩ := h; rfl) | (obtain ⟨_, _, _, _, _, _, _, _, _, _, _, rfl, _⟩ := h; rfl) | (obtain ⟨_, _, _, _, _, _, _, _, _, _, _, _, rfl, _⟩ := h; rfl) | (obtain ⟨_, _, _, _, _, _, _, _, _, _, _, _, _, rfl, _⟩ := h; rfl) | (obtain ⟨_, _, _, _, _, _, _, _, _, _, _, _, _, _, rfl, _⟩ := h; rfl) | (obtain ⟨_, _, _, _, _, _, _, _, _, _, _, _, _, _, _, rfl, _⟩ := h; rfl)) (fun cdv A outer s H vs Q E hr h => ⟨t_power_below K, PSs.nox ?_, r_power_below h⟩), g, F.kp, F.bindsN fun _ _ _ _ _ _ us hl => match us, hl with | [_, _, _], _ => rfl⟩
  exact (pss_fg (pss_cons (ps_set (i := 3) sc_power_below.nd rfl (Or.inl rfl) (pe_un un_neg pe_int))
      (pss_cons (ps_set (i := 4) sc_power_below.nd rfl (Or.inl rfl) (pv 1))
      (pss_cons (ps_while PassesOwn.never (pt_cmpR op_lt (pv 4) (pv 2) (nomark _)) (pss_cons (ps_aug (i := 3) sc_power_below.nd rfl (Or.inl rfl) pe_int ip_add)
      (pss_one (ps_aug (i := 4) sc_power_below.nd rfl (Or.inl rfl) (pv 0) ip_mul))))
      (pss_one (ps_ret (pv 3)))))))
theorem ok_rests_to (F : FnP K "rests_to" s_rests_to f fd) (g : mg "rests_to" = some (.ref f)) (m_int : mg "int" = none) (m_list : mg "list" = none) (m_sorted : mg "sorted" = none) : Fn P w K mg base "rests_to" 1 ["row", "bound"] (sp_rests_to K) := by
  refine ⟨f, fd, F.ok (k := 0) sc_rests_to (fun vs H Q E h => by first | (obtain ⟨_, _, rfl, _⟩ := h; rfl) | (obtain ⟨_, _, _, rfl, _⟩ := h; rfl) | (obtain ⟨_, _, _, _, rfl, _⟩ := h; rfl) | (obtain ⟨_, _, _, _, _, rfl, _⟩ := h; rfl) | (obtain ⟨_, _, _, _, _, _, rfl, _⟩ := h; rfl) | (obtain ⟨_, _, _, _, _, _, _, rfl, _⟩ := h; rfl) | (obtain ⟨_, _, _, _, _, _, _, _, rfl, _⟩ := h; rfl) | (obtain ⟨_, _, _, _, _, _, _, _, _, rfl, _⟩ := h; rfl) | (obtain ⟨_, _, _, _, _, _, _, _, _, _, rfl, _⟩ := h; rfl) | (obtain ⟨_, _, _, _, _, _, _, _, _, _, _, rfl, _⟩ := h; rfl) | (obtain ⟨_, _, _, _, _, _, _, _, _, _, _, _, rfl, _⟩ := h; rfl) | (obtain ⟨_, _, _, _, _, _, _, _, _, _, _, _, _, rfl, _⟩ := h; rfl) | (obtain ⟨_, _, _, _, _, _, _, _, _, _, _, _, _, _, rfl, _⟩ := h; rfl) | (obtain ⟨_, _, _, _, _, _, _, _, _, _, _, _, _, _, _, rfl, _⟩ := h; rfl)) (fun cdv A outer s H vs Q E hr h => ⟨t_rests_to K, PSs.nox ?_, r_rests_to h⟩), g, F.kp, F.bindsN fun _ _ _ _ _ _ us hl => match us, hl with | [_, _], _ => rfl⟩
  exact (pss_fg (pss_cons (ps_set (i := 2) sc_rests_to.nd rfl (Or.inl rfl) (pe_fg (pe_op op_rep (pe_lst (pa_cons pe_int pa_nil)) (pe_callTy call_int1 (by rfl) m_int (by decide +kernel) (pa_cons (pe_cmpR op_ge (pv 1) pe_int (nomark _)) pa_nil)))))
      (pss_cons (ps_for PassesOwn.never rfl (pi_list (pe_slice sl_list (pv 0) (po_some pe_int) po_none)) (pg_name (i := 3) sc_rests_to.nd rfl (Or.inr rfl)) (pss_cons (ps_set (i := 4) sc_rests_to.nd rfl (Or.inl rfl) (pe_callTy call_list_of (by rfl) m_list (by decide +kernel) (pa_cons (pv 2) pa_nil)))
      (pss_one (ps_while PassesOwn.never (pt_fg (pt_cmpR (op_neD hr.units) (pv 4) (pe_lst pa_nil) (nomark _))) (pss_cons (ps_setLc (i := 4) (own := [("one", 5)]) (g := (gName 5)) (tt := (tTest (tOp oLe (tOp oMul (tVar 3) (tVar 5)) (tVar 1)))) rfl sc_rests_to.nd rfl rfl (sw_true rfl rfl rfl (by decide +kernel)) (pi_list (pv 4)) (blkOk_by (N := N_rests_to) (sc := defScope s_rests_to) (by decide +kernel)) (fun _ _ _ _ _ => (pg_name (i := 5) sc_rests_to.nd rfl (Or.inl rfl))) (fun _ _ _ _ _ => (pts_one (pt_cmpR op_le (pe_op op_mulW (pv 3) (pv 5)) (pv 1) (nomark _)))) (fun _ _ _ _ _ => (pe_op op_mulW (pv 3) (pv 5))))
      (pss_one (ps_expr (pe_bm PySem.F.plainAttrs_list PySem.F.slot_list_extend PySem.F.type_list_extend mt_extend (pv 2) (pa_cons (pv 4) pa_nil)))))))))
      (pss_one (ps_ret (pe_callB cr_sortedI (by rfl) m_sorted (by decide +kernel) (pa_cons (pv 2) pa_nil)))))))
theorem ok_right_paper (F : FnP K "right_paper" s_right_paper f fd) (g : mg "right_paper" = some (.ref f)) (F_rests_to : Fn P w K mg base "rests_to" 1 ["row", "bound"] (sp_rests_to K)) (F_power_below : Fn P w K mg base "power_below" 1 ["prime", "rest", "low"] (sp_power_below K)) : Fn P w K mg base "right_paper" 2 ["row", "low", "high"] (sp_right_paper K) := by
  refine ⟨f, fd, F.ok (k := 1) sc_right_paper (fun vs H Q E h => by first | (obtain ⟨_, _, rfl, _⟩ := h; rfl) | (obtain ⟨_, _, _, rfl, _⟩ := h; rfl) | (obtain ⟨_, _, _, _, rfl, _⟩ := h; rfl) | (obtain ⟨_, _, _, _, _, rfl, _⟩ := h; rfl) | (obtain ⟨_, _, _, _, _, _, rfl, _⟩ := h; rfl) | (obtain ⟨_, _, _, _, _, _, _, rfl, _⟩ := h; rfl) | (obtain ⟨_, _, _, _, _, _, _, _, rfl, _⟩ := h; rfl) | (obtain ⟨_, _, _, _, _, _, _, _, _, rfl, _⟩ := h; rfl) | (obtain ⟨_, _, _, _, _, _, _, _, _, _, rfl, _⟩ := h; rfl) | (obtain ⟨_, _, _, _, _, _, _, _, _, _, _, rfl, _⟩ := h; rfl) | (obtain ⟨_, _, _, _, _, _, _, _, _, _, _, _, rfl, _⟩ := h; rfl) | (obtain ⟨_, _, _, _, _, _, _, _, _, _, _, _, _, rfl, _⟩ := h; rfl) | (obtain ⟨_, _, _, _, _, _, _, _, _, _, _, _, _, _, rfl, _⟩ := h; rfl) | (obtain ⟨_, _, _, _, _, _, _, _, _, _, _, _, _, _, _, rfl, _⟩ := h; rfl)) (fun cdv A outer s H vs Q E hr h => ⟨t_right_paper K, PSs.nox ?_, r_right_paper h⟩), g, F.kp, F.bindsN fun _ _ _ _ _ _ us hl => match us, hl with | [_, _, _], _ => rfl⟩
  exact (pss_fg (pss_cons (ps_if (pt_cmpR op_gt (pv 1) (pv 2) (nomark _)) (pss_one (ps_ret (pe_lst pa_nil))) pss_nil)
      (pss_one (ps_ret (pe_lc (own := [("rest", 3)]) (g := (gName 3)) (tt := tYes) rfl sc_right_paper.nd (pi_list (pe_fn F_rests_to (hr.mono (by decide)) (pa_cons (pv 0) (pa_cons (pv 2) pa_nil)))) (blkOk_by (N := N_right_paper) (sc := defScope s_right_paper) (by decide +kernel)) (fun _ _ _ _ _ => (pg_name (i := 3) sc_right_paper.nd rfl (Or.inl rfl))) (fun _ _ _ _ _ => pts_nil) (fun _ _ _ _ _ => (pe_tup (pa_cons (pv 3) (pa_cons (pe_fn F_power_below (hr.mono (by decide)) (pa_cons (pe_ix ix_list (pv 0) pe_int (fun _ _ => rfl)) (pa_cons (pv 3) (pa_cons (pv 1) pa_nil)))) pa_nil)))))))))
theorem ok_is_far (F : FnP K "is_far" s_is_far f fd) (g : mg "is_far" = some (.ref f)) (m_range : mg "range" = none) : Fn P w K mg base "is_far" 1 ["prime", "rest", "power", "high"] (sp_is_far K) := by
  refine ⟨f, fd, F.ok (k := 0) sc_is_far (fun vs H Q E h => by first | (obtain ⟨_, _, rfl, _⟩ := h; rfl) | (obtain ⟨_, _, _, rfl, _⟩ := h; rfl) | (obtain ⟨_, _, _, _, rfl, _⟩ := h; rfl) | (obtain ⟨_, _, _, _, _, rfl, _⟩ := h; rfl) | (obtain ⟨_, _, _, _, _, _, rfl, _⟩ := h; rfl) | (obtain ⟨_, _, _, _, _, _, _, rfl, _⟩ := h; rfl) | (obtain ⟨_, _, _, _, _, _, _, _, rfl, _⟩ := h; rfl) | (obtain ⟨_, _, _, _, _, _, _, _, _, rfl, _⟩ := h; rfl) | (obtain ⟨_, _, _, _, _, _, _, _, _, _, rfl, _⟩ := h; rfl) | (obtain ⟨_, _, _, _, _, _, _, _, _, _, _, rfl, _⟩ := h; rfl) | (obtain ⟨_, _, _, _, _, _, _, _, _, _, _, _, rfl, _⟩ := h; rfl) | (obtain ⟨_, _, _, _, _, _, _, _, _, _, _, _, _, rfl, _⟩ := h; rfl) | (obtain ⟨_, _, _, _, _, _, _, _, _, _, _, _, _, _, rfl, _⟩ := h; rfl) | (obtain ⟨_, _, _, _, _, _, _, _, _, _, _, _, _, _, _, rfl, _⟩ := h; rfl)) (fun cdv A outer s H vs Q E hr h => ⟨t_is_far K, PSs.nox ?_, r_is_far h⟩), g, F.kp, F.bindsN fun _ _ _ _ _ _ us hl => match us, hl with | [_, _, _, _], _ => rfl⟩
  exact (pss_fg (pss_cons (ps_set (i := 4) sc_is_far.nd rfl (Or.inl rfl) (pv 1))
      (pss_cons (ps_for PassesOwn.never rfl (pi_range1 (by rfl) m_range (pa_cons (pe_op op_add (pv 2) pe_int) pa_nil)) (pg_name (i := 5) sc_is_far.nd rfl (Or.inl rfl)) (pss_one (ps_aug (i := 4) sc_is_far.nd rfl (Or.inl rfl) (pv 0) ip_mul)))
      (pss_one (ps_ret (pe_cmpR op_gt (pv 4) (pv 3) (nomark _)))))))
theorem ok_paper_of (F : FnP K "paper_of" s_paper_of f fd) (g : mg "paper_of" = some (.ref f)) (F_is_made_of : Fn P w K mg base "is_made_of" 4 ["row", "thing"] (sp_is_made_of K)) (F_right_paper : Fn P w K mg base "right_paper" 2 ["row", "low", "high"] (sp_right_paper K)) (F_is_far : Fn P w K mg base "is_far" 1 ["prime", "rest", "power", "high"] (sp_is_far K)) : Fn P w K mg base "paper_of" 5 ["row", "low", "high"] (sp_paper_of K) := by
  refine ⟨f, fd, F.ok (k := 4) sc_paper_of (fun vs H Q E h => by first | (obtain ⟨_, _, rfl, _⟩ := h; rfl) | (obtain ⟨_, _, _, rfl, _⟩ := h; rfl) | (obtain ⟨_, _, _, _, rfl, _⟩ := h; rfl) | (obtain ⟨_, _, _, _, _, rfl, _⟩ := h; rfl) | (obtain ⟨_, _, _, _, _, _, rfl, _⟩ := h; rfl) | (obtain ⟨_, _, _, _, _, _, _, rfl, _⟩ := h; rfl) | (obtain ⟨_, _, _, _, _, _, _, _, rfl, _⟩ := h; rfl) | (obtain ⟨_, _, _, _, _, _, _, _, _, rfl, _⟩ := h; rfl) | (obtain ⟨_, _, _, _, _, _, _, _, _, _, rfl, _⟩ := h; rfl) | (obtain ⟨_, _, _, _, _, _, _, _, _, _, _, rfl, _⟩ := h; rfl) | (obtain ⟨_, _, _, _, _, _, _, _, _, _, _, _, rfl, _⟩ := h; rfl) | (obtain ⟨_, _, _, _, _, _, _, _, _, _, _, _, _, rfl, _⟩ := h; rfl) | (obtain ⟨_, _, _, _, _, _, _, _, _, _, _, _, _, _, rfl, _⟩ := h; rfl) | (obtain ⟨_, _, _, _, _, _, _, _, _, _, _, _, _, _, _, rfl, _⟩ := h; rfl)) (fun cdv A outer s H vs Q E hr h => ⟨t_paper_of K, PSs.nox ?_, r_paper_of h⟩), g, F.kp, F.bindsN fun _ _ _ _ _ _ us hl => match us, hl with | [_, _, _], _ => rfl⟩
  exact (pss_fg (pss_cons (ps_expr (pe_fn F_is_made_of (hr.mono (by decide)) (pa_cons (pv 0) (pa_cons pe_int pa_nil))))
      (pss_cons (ps_set (i := 3) sc_paper_of.nd rfl (Or.inl rfl) (pe_fn F_right_paper (hr.mono (by decide)) (pa_cons (pv 0) (pa_cons (pv 1) (pa_cons (pv 2) pa_nil)))))
      (pss_cons (ps_if (pt_cmpR (op_neD hr.units) (pe_lc (own := [("rest", 4), ("power", 5)]) (g := (gTup K 2 (gCons (gName 4) (gCons (gName 5) gNil)))) (tt := (tNot (tB (tCall (sp_is_far K) [] E0 (tCons (tOp (rIxL K) (tVar 0) (tC (.int 0))) (tCons (tVar 4) (tCons (tVar 5) (tCons (tVar 2) tNil)))))))) rfl sc_paper_of.nd (pi_list (pv 3)) (blkOk_by (N := N_paper_of) (sc := defScope s_paper_of) (by decide +kernel)) (fun _ _ _ _ _ => (pg_tup rfl (pgs_cons (pg_name (i := 4) sc_paper_of.nd rfl (Or.inl rfl)) (pgs_cons (pg_name (i := 5) sc_paper_of.nd rfl (Or.inl rfl)) pgs_nil)))) (fun _ _ _ _ _ => (pts_one (pt_not (pt_val (pe_fn F_is_far (hr.mono (by decide)) (pa_cons (pe_ix ix_list (pv 0) pe_int (fun _ _ => rfl)) (pa_cons (pv 4) (pa_cons (pv 5) (pa_cons (pv 2) pa_nil))))))))) (fun _ _ _ _ _ => (pv 4))) (pe_lst pa_nil) (nomark _)) (pss_one (ps_ret pe_non)) pss_nil)
      (pss_one (ps_ret (pv 3)))))))
theorem ok_is_paperZ (F : FnP K "is_paper" s_is_paperZ f fd) (g : mg "is_paper" = some (.ref f)) (F_paper_of : Fn P w K mg base "paper_of" 5 ["row", "low", "high"] (sp_paper_of K)) (m_bool : mg "bool" = none) (m_int : mg "int" = none) (m_isinstance : mg "isinstance" = none) (m_len : mg "len" = none) (m_list : mg "list" = none) (m_tuple : mg "tuple" = none) (m_zip : mg "zip" = none) : Fn P w K mg base "is_paper" 6 ["row", "low", "high", "thing"] (sp_is_paperZ K) := by
  refine ⟨f, fd, F.ok (k := 5) sc_is_paperZ (fun vs H Q E h => by first | (obtain ⟨_, _, rfl, _⟩ := h; rfl) | (obtain ⟨_, _, _, rfl, _⟩ := h; rfl) | (obtain ⟨_, _, _, _, rfl, _⟩ := h; rfl) | (obtain ⟨_, _, _, _, _, rfl, _⟩ := h; rfl) | (obtain ⟨_, _, _, _, _, _, rfl, _⟩ := h; rfl) | (obtain ⟨_, _, _, _, _, _, _, rfl, _⟩ := h; rfl) | (obtain ⟨_, _, _, _, _, _, _, _, rfl, _⟩ := h; rfl) | (obtain ⟨_, _, _, _, _, _, _, _, _, rfl, _⟩ := h; rfl) | (obtain ⟨_, _, _, _, _, _, _, _, _, _, rfl, _⟩ := h; rfl) | (obtain ⟨_, _, _, _, _, _, _, _, _, _, _, rfl, _⟩ := h; rfl) | (obtain ⟨_, _, _, _, _, _, _, _, _, _, _, _, rfl, _⟩ := h; rfl) | (obtain ⟨_, _, _, _, _, _, _, _, _, _, _, _, _, rfl, _⟩ := h; rfl) | (obtain ⟨_, _, _, _, _, _, _, _, _, _, _, _, _, _, rfl, _⟩ := h; rfl) | (obtain ⟨_, _, _, _, _, _, _, _, _, _, _, _, _, _, _, rfl, _⟩ := h; rfl)) (fun cdv A outer s H vs Q E hr h => ⟨t_is_paperZ K, PSs.nox ?_, r_is_paperZ h⟩), g, F.kp, F.bindsN fun _ _ _ _ _ _ us hl => match us, hl with | [_, _, _, _], _ => rfl⟩
  exact (pss_fg (pss_cons (ps_set (i := 4) sc_is_paperZ.nd rfl (Or.inl rfl) (pe_fn F_paper_of (hr.mono (by decide)) (pa_cons (pv 0) (pa_cons (pv 1) (pa_cons (pv 2) pa_nil)))))
      (pss_cons (ps_if (PW.pt (pw_or (pt_cmpR op_isN (pv 4) pe_non (nomark _)) (pw_or (pt_not (pt_val (pe_callB call_isW (by rfl) m_isinstance (by decide +kernel) (pa_cons (pv 3) (pa_cons (pe_bltn (v := .ty "list") (by rfl) m_list (by decide +kernel) rfl) pa_nil))))) (pw_or1 (pt_cmpR (op_neX hr.units) (pe_callB call_len_seq (by rfl) m_len (by decide +kernel) (pa_cons (pv 3) pa_nil)) (pe_callB call_len_seq (by rfl) m_len (by decide +kernel) (pa_cons (pv 4) pa_nil)) (nomark _)))))) (pss_one (ps_ret pe_bl)) pss_nil)
      (pss_cons (ps_for PassesOwn.never rfl (pi_zip (by rfl) m_zip (pa_cons (pv 3) (pa_cons (pv 4) pa_nil))) (pg_tup rfl (pgs_cons (pg_name (i := 5) sc_is_paperZ.nd rfl (Or.inl rfl)) (pgs_cons (pg_name (i := 6) sc_is_paperZ.nd rfl (Or.inl rfl)) pgs_nil))) (pss_cons (ps_if (PW.pt (pw_or (pt_not (pt_val (pe_callB call_isW (by rfl) m_isinstance (by decide +kernel) (pa_cons (pv 5) (pa_cons (pe_bltn (v := .ty "tuple") (by rfl) m_tuple (by decide +kernel) rfl) pa_nil))))) (pw_or1 (pt_cmpR (op_neX hr.units) (pe_callB call_len_seq (by rfl) m_len (by decide +kernel) (pa_cons (pv 5) pa_nil)) pe_int (nomark _))))) (pss_one (ps_ret pe_bl)) pss_nil)
      (pss_one (ps_if (PW.pt (pw_or (pt_cmpR (op_neX hr.units) (pe_lc (own := [("part", 7)]) (g := (gName 7)) (tt := (tOr (tNot (tB (tCB (rIsW K) (tCons (tVar 7) (tCons (tC (.ty "int")) tNil))))) (tB (tCB (rIsW K) (tCons (tVar 7) (tCons (tC (.ty "bool")) tNil)))))) rfl sc_is_paperZ.nd (pi_tup (pv 5)) (blkOk_by (N := N_is_paperZ) (sc := defScope s_is_paperZ) (by decide +kernel)) (fun _ _ _ _ _ => (pg_name (i := 7) sc_is_paperZ.nd rfl (Or.inl rfl))) (fun _ _ _ _ _ => (pts_one (PW.pt (pw_or (pt_not (pt_val (pe_callB call_isW (by rfl) m_isinstance (by decide +kernel) (pa_cons (pv 7) (pa_cons (pe_bltn (v := .ty "int") (by rfl) m_int (by decide +kernel) rfl) pa_nil))))) (pw_or1 (pt_val (pe_callB call_isW (by rfl) m_isinstance (by decide +kernel) (pa_cons (pv 7) (pa_cons (pe_bltn (v := .ty "bool") (by rfl) m_bool (by decide +kernel) rfl) pa_nil))))))))) (fun _ _ _ _ _ => (pv 7))) (pe_lst pa_nil) (nomark _)) (pw_or1 (pt_cmpR (op_neX hr.units) (pv 5) (pv 6) (nomark _))))) (pss_one (ps_ret pe_bl)) pss_nil))))
      (pss_one (ps_ret pe_bl))))))
theorem ok_law_right_paper (F : FnP K "_law_right_paper" s_law_right_paper f fd) (g : mg "_law_right_paper" = some (.ref f)) (F_law_made : Fn P w K mg base "_law_made" 1 ["row", "bound"] (sp_law_made K)) : Fn P w K mg base "_law_right_paper" 2 ["row", "low", "high"] (sp_law_right_paper K) := by
  refine ⟨f, fd, F.ok (k := 1) sc_law_right_paper (fun vs H Q E h => by first | (obtain ⟨_, _, rfl, _⟩ := h; rfl) | (obtain ⟨_, _, _, rfl, _⟩ := h; rfl) | (obtain ⟨_, _, _, _, rfl, _⟩ := h; rfl) | (obtain ⟨_, _, _, _, _, rfl, _⟩ := h; rfl) | (obtain ⟨_, _, _, _, _, _, rfl, _⟩ := h; rfl) | (obtain ⟨_, _, _, _, _, _, _, rfl, _⟩ := h; rfl) | (obtain ⟨_, _, _, _, _, _, _, _, rfl, _⟩ := h; rfl) | (obtain ⟨_, _, _, _, _, _, _, _, _, rfl, _⟩ := h; rfl) | (obtain ⟨_, _, _, _, _, _, _, _, _, _, rfl, _⟩ := h; rfl) | (obtain ⟨_, _, _, _, _, _, _, _, _, _, _, rfl, _⟩ := h; rfl) | (obtain ⟨_, _, _, _, _, _, _, _, _, _, _, _, rfl, _⟩ := h; rfl) | (obtain ⟨_, _, _, _, _, _, _, _, _, _, _, _, _, rfl, _⟩ := h; rfl) | (obtain ⟨_, _, _, _, _, _, _, _, _, _, _, _, _, _, rfl, _⟩ := h; rfl) | (obtain ⟨_, _, _, _, _, _, _, _, _, _, _, _, _, _, _, rfl, _⟩ := h; rfl)) (fun cdv A outer s H vs Q E hr h => ⟨t_law_right_paper K, PSs.nox ?_, r_law_right_paper h⟩), g, F.kp, F.bindsN fun _ _ _ _ _ _ us hl => match us, hl with | [_, _, _], _ => rfl⟩
  exact (pss_fg (pss_cons (ps_if (pt_cmpR op_gt (pv 1) (pv 2) (nomark _)) (pss_one (ps_ret (pe_lst pa_nil))) pss_nil)
      (pss_cons (ps_set (i := 3) sc_law_right_paper.nd rfl (Or.inl rfl) (pe_lst pa_nil))
      (pss_cons (ps_for PassesOwn.never rfl (pi_list (pe_fn F_law_made (hr.mono (by decide)) (pa_cons (pe_slice sl_list (pv 0) (po_some pe_int) po_none) (pa_cons (pv 2) pa_nil)))) (pg_name (i := 4) sc_law_right_paper.nd rfl (Or.inl rfl)) (pss_cons (ps_set (i := 5) sc_law_right_paper.nd rfl (Or.inl rfl) (pe_un un_neg pe_int))
      (pss_cons (ps_set (i := 6) sc_law_right_paper.nd rfl (Or.inl rfl) (pv 4))
      (pss_cons (ps_while PassesOwn.never (pt_cmpR op_lt (pv 6) (pv 1) (nomark _)) (pss_cons (ps_set (i := 6) sc_law_right_paper.nd rfl (Or.inl rfl) (pe_op op_mulW (pv 6) (pe_ix ix_list (pv 0) pe_int (fun _ _ => rfl))))
      (pss_one (ps_set (i := 5) sc_law_right_paper.nd rfl (Or.inl rfl) (pe_op op_add (pv 5) pe_int)))))
      (pss_cons (ps_if (pt_cmpR op_le (pv 6) (pv 2) (nomark _)) (pss_one (ps_ret pe_non)) pss_nil)
      (pss_one (ps_expr (pe_bm PySem.F.plainAttrs_list PySem.F.slot_list_append PySem.F.type_list_append mt_append (pv 3) (pa_cons (pe_tup (pa_cons (pv 4) (pa_cons (pv 5) pa_nil))) pa_nil)))))))))
      (pss_one (ps_ret (pv 3)))))))
theorem ok_law_judged (F : FnP K "_law_judged" s_law_judged f fd) (g : mg "_law_judged" = some (.ref f)) (F_law_right_paper : Fn P w K mg base "_law_right_paper" 2 ["row", "low", "high"] (sp_law_right_paper K)) (F_is_paperZ : Fn P w K mg base "is_paper" 6 ["row", "low", "high", "thing"] (sp_is_paperZ K)) (m_bool : mg "bool" = none) (m_isinstance : mg "isinstance" = none) (m_range : mg "range" = none) (m_repr : mg "repr" = none) (hS : sysB K = true) : Gn1 P w K mg base "_law_judged" 7 ["row", "low", "high", "thing"] (sp_law_judged K) := by
  refine ⟨f, fd, gn_of F (k := 6) sc_law_judged (fun vs H Q E h => by first | (obtain ⟨_, _, rfl, _⟩ := h; rfl) | (obtain ⟨_, _, _, rfl, _⟩ := h; rfl) | (obtain ⟨_, _, _, _, rfl, _⟩ := h; rfl) | (obtain ⟨_, _, _, _, _, rfl, _⟩ := h; rfl) | (obtain ⟨_, _, _, _, _, _, rfl, _⟩ := h; rfl) | (obtain ⟨_, _, _, _, _, _, _, rfl, _⟩ := h; rfl) | (obtain ⟨_, _, _, _, _, _, _, _, rfl, _⟩ := h; rfl) | (obtain ⟨_, _, _, _, _, _, _, _, _, rfl, _⟩ := h; rfl) | (obtain ⟨_, _, _, _, _, _, _, _, _, _, rfl, _⟩ := h; rfl) | (obtain ⟨_, _, _, _, _, _, _, _, _, _, _, rfl, _⟩ := h; rfl) | (obtain ⟨_, _, _, _, _, _, _, _, _, _, _, _, rfl, _⟩ := h; rfl) | (obtain ⟨_, _, _, _, _, _, _, _, _, _, _, _, _, rfl, _⟩ := h; rfl) | (obtain ⟨_, _, _, _, _, _, _, _, _, _, _, _, _, _, rfl, _⟩ := h; rfl) | (obtain ⟨_, _, _, _, _, _, _, _, _, _, _, _, _, _, _, rfl, _⟩ := h; rfl)) (fun cdv A outer s H vs Q E hr hc h => ⟨t_law_judged K, PSs.nox ?_, r_law_judged h⟩), g, F.kp, F.bindsN fun _ _ _ _ _ _ us hl => match us, hl with | [_, _, _, _], _ => rfl⟩
  exact (pss_fg (pss_cons (ps_set (i := 4) sc_law_judged.nd rfl (Or.inl rfl) (pe_fn F_law_right_paper (hr.mono (by decide)) (pa_cons (pv 0) (pa_cons (pv 1) (pa_cons (pv 2) pa_nil)))))
      (pss_cons (ps_set (i := 4) sc_law_judged.nd rfl (Or.inl rfl) (pe_and (pe_cmpR op_notN (pv 4) pe_non (nomark _)) (pe_one (pe_cmpR op_eq (pe_callB (call_reprQ hS hr hc) (by rfl) m_repr (by decide +kernel) (pa_cons (pv 3) pa_nil)) (pe_callB (call_reprQ hS hr hc) (by rfl) m_repr (by decide +kernel) (pa_cons (pv 4) pa_nil)) (nomark _)))))
      (pss_cons (ps_set (i := 5) sc_law_judged.nd rfl (Or.inl rfl) (pe_callB (call_reprQ hS hr hc) (by rfl) m_repr (by decide +kernel) (pa_cons (pe_lst (pa_cons (pv 0) (pa_cons (pv 3) pa_nil))) pa_nil)))
      (pss_cons (ps_for PassesOwn.never rfl (pi_range1 (by rfl) m_range (pa_cons pe_int pa_nil)) (pg_name (i := 6) sc_law_judged.nd rfl (Or.inl rfl)) (pss_cons (ps_set (i := 7) sc_law_judged.nd rfl (Or.inl rfl) (pe_fn F_is_paperZ (hr.mono (by decide)) (pa_cons (pv 0) (pa_cons (pv 1) (pa_cons (pv 2) (pa_cons (pv 3) pa_nil))))))
      (pss_one (ps_if (PW.pt (pw_or (pt_not (pt_val (pe_callB call_isW (by rfl) m_isinstance (by decide +kernel) (pa_cons (pv 7) (pa_cons (pe_bltn (v := .ty "bool") (by rfl) m_bool (by decide +kernel) rfl) pa_nil))))) (pw_or (pt_cmpR op_ne (pv 7) (pv 4) (nomark _)) (pw_or1 (pt_fg (pt_cmpR op_ne (pe_callB (call_reprQ hS hr hc) (by rfl) m_repr (by decide +kernel) (pa_cons (pe_lst (pa_cons (pv 0) (pa_cons (pv 3) pa_nil))) pa_nil)) (pv 5) (nomark _))))))) (pss_one (ps_ret pe_bl)) pss_nil))))
      (pss_one (ps_ret pe_bl)))))))
theorem ok_law_deep (F : FnP K "_law_deep" s_law_deep f fd) (g : mg "_law_deep" = some (.ref f)) (m_range : mg "range" = none) : Fn P w K mg base "_law_deep" 1 ["many"] (sp_law_deep K) := by
  refine ⟨f, fd, F.ok (k := 0) sc_law_deep (fun vs H Q E h => by first | (obtain ⟨_, _, rfl, _⟩ := h; rfl) | (obtain ⟨_, _, _, rfl, _⟩ := h; rfl) | (obtain ⟨_, _, _, _, rfl, _⟩ := h; rfl) | (obtain ⟨_, _, _, _, _, rfl, _⟩ := h; rfl) | (obtain ⟨_, _, _, _, _, _, rfl, _⟩ := h; rfl) | (obtain ⟨_, _, _, _, _, _, _, rfl, _⟩ := h; rfl) | (obtain ⟨_, _, _, _, _, _, _, _, rfl, _⟩ := h; rfl) | (obtain ⟨_, _, _, _, _, _, _, _, _, rfl, _⟩ := h; rfl) | (obtain ⟨_, _, _, _, _, _, _, _, _, _, rfl, _⟩ := h; rfl) | (obtain ⟨_, _, _, _, _, _, _, _, _, _, _, rfl, _⟩ := h; rfl) | (obtain ⟨_, _, _, _, _, _, _, _, _, _, _, _, rfl, _⟩ := h; rfl) | (obtain ⟨_, _, _, _, _, _, _, _, _, _, _, _, _, rfl, _⟩ := h; rfl) | (obtain ⟨_, _, _, _, _, _, _, _, _, _, _, _, _, _, rfl, _⟩ := h; rfl) | (obtain ⟨_, _, _, _, _, _, _, _, _, _, _, _, _, _, _, rfl, _⟩ := h; rfl)) (fun cdv A outer s H vs Q E hr h => ⟨t_law_deep K, PSs.nox ?_, r_law_deep h⟩), g, F.kp, F.bindsN fun _ _ _ _ _ _ us hl => match us, hl with | [_], _ => rfl⟩
  exact (pss_fg (pss_cons (ps_set (i := 1) sc_law_deep.nd rfl (Or.inl rfl) (pe_lst pa_nil))
      (pss_cons (ps_for PassesOwn.never rfl (pi_range1 (by rfl) m_range (pa_cons (pv 0) pa_nil)) (pg_name (i := 2) sc_law_deep.nd rfl (Or.inl rfl)) (pss_one (ps_set (i := 1) sc_law_deep.nd rfl (Or.inl rfl) (pe_lst (pa_cons (pv 1) pa_nil)))))
      (pss_one (ps_ret (pv 1))))))
theorem ok_law (F : FnP K "law" s_law f fd) (F_law_draws : Fn P w K mg base "_law_draws" 1 ["script"] (sp_law_draws K)) (F_law_row : Fn P w K mg base "_law_row" 2 ["draws", "most"] (sp_law_row K)) (F_law_take : Fn P w K mg base "_law_take" 1 ["draws", "many"] (sp_law_take K)) (F_law_gapM : Fn P w K mg base "_law_gap" 3 ["draws", "row", "most"] (sp_law_gapM K)) (F_law_things : Gn1 P w K mg base "_law_things" 4 ["draws", "row", "low", "high"] (sp_law_things K)) (F_law_judged : Gn1 P w K mg base "_law_judged" 7 ["row", "low", "high", "thing"] (sp_law_judged K)) (F_law_all : Fn P w K mg base "_law_all" 2 ["row", "low", "high"] (sp_law_all K)) (F_law_deep : Fn P w K mg base "_law_deep" 1 ["many"] (sp_law_deep K)) (F_is_paperZ : Fn P w K mg base "is_paper" 6 ["row", "low", "high", "thing"] (sp_is_paperZ K)) (m_ValueError : mg "ValueError" = none) (m_int : mg "int" = none) (m_len : mg "len" = none) : FnG P w K mg base 8 f fd ["script"] (sp_law K) := by
  refine gn_of F (k := 7) sc_law (fun vs H Q E h => by first | (obtain ⟨_, _, rfl, _⟩ := h; rfl) | (obtain ⟨_, _, _, rfl, _⟩ := h; rfl) | (obtain ⟨_, _, _, _, rfl, _⟩ := h; rfl) | (obtain ⟨_, _, _, _, _, rfl, _⟩ := h; rfl) | (obtain ⟨_, _, _, _, _, _, rfl, _⟩ := h; rfl) | (obtain ⟨_, _, _, _, _, _, _, rfl, _⟩ := h; rfl) | (obtain ⟨_, _, _, _, _, _, _, _, rfl, _⟩ := h; rfl) | (obtain ⟨_, _, _, _, _, _, _, _, _, rfl, _⟩ := h; rfl) | (obtain ⟨_, _, _, _, _, _, _, _, _, _, rfl, _⟩ := h; rfl) | (obtain ⟨_, _, _, _, _, _, _, _, _, _, _, rfl, _⟩ := h; rfl) | (obtain ⟨_, _, _, _, _, _, _, _, _, _, _, _, rfl, _⟩ := h; rfl) | (obtain ⟨_, _, _, _, _, _, _, _, _, _, _, _, _, rfl, _⟩ := h; rfl) | (obtain ⟨_, _, _, _, _, _, _, _, _, _, _, _, _, _, rfl, _⟩ := h; rfl) | (obtain ⟨_, _, _, _, _, _, _, _, _, _, _, _, _, _, _, rfl, _⟩ := h; rfl)) (fun cdv A outer s H vs Q E hr hc h => ⟨t_law K, PSs.nox ?_, r_law h⟩)
  exact (pss_fg (pss_cons (ps_set (i := 1) sc_law.nd rfl (Or.inl rfl) (pe_fn F_law_draws (hr.mono (by decide)) (pa_cons (pv 0) pa_nil)))
      (pss_cons (ps_set (i := 2) sc_law.nd rfl (Or.inl rfl) pe_int)
      (pss_cons (ps_while PassesOwn.never (PW.pt (pw_or (pt_cmpR op_lt (pv 2) pe_int (nomark _)) (pw_or1 (PW.pt (pw_and (pt_fg (pt_cmpR (op_neD hr.units) (pv 1) (pe_lst pa_nil) (nomark _))) (pw_and1 (pt_cmpR op_lt (pv 2) pe_int (nomark _)))))))) (pss_cons (ps_set (i := 3) sc_law.nd rfl (Or.inl rfl) (pe_fn F_law_row (hr.mono (by decide)) (pa_cons (pv 1) (pa_cons pe_int pa_nil))))
      (pss_cons (ps_asg (pe_fn F_law_gapM (hr.mono (by decide)) (pa_cons (pv 1) (pa_cons (pv 3) (pa_cons (pe_ix ix_list (pe_lst (pa_cons (pe_op op_pow pe_int pe_int) (pa_cons (pe_op op_pow pe_int pe_int) pa_nil))) (pe_callTy call_int1 (by rfl) m_int (by decide +kernel) (pa_cons (pe_cmpR op_eq (pe_fn F_law_take (hr.mono (by decide)) (pa_cons (pv 1) (pa_cons pe_int pa_nil))) pe_int (nomark _)) pa_nil)) (fun _ _ => rfl)) pa_nil)))) (pg_tup rfl (pgs_cons (pg_name (i := 4) sc_law.nd rfl (Or.inl rfl)) (pgs_cons (pg_name (i := 5) sc_law.nd rfl (Or.inl rfl)) pgs_nil))))
      (pss_cons (ps_for PassesOwn.never rfl (pi_list (pe_gn F_law_things (hr.mono (by decide)) hc (pa_cons (pv 1) (pa_cons (pv 3) (pa_cons (pv 4) (pa_cons (pv 5) pa_nil)))))) (pg_name (i := 6) sc_law.nd rfl (Or.inl rfl)) (pss_one (ps_if (pt_not (pt_val (pe_gn F_law_judged (hr.mono (by decide)) hc (pa_cons (pv 3) (pa_cons (pv 4) (pa_cons (pv 5) (pa_cons (pv 6) pa_nil))))))) (pss_one (ps_ret pe_bl)) pss_nil)))
      (pss_cons (ps_set (i := 7) sc_law.nd rfl (Or.inl rfl) (pe_fn F_law_all (hr.mono (by decide)) (pa_cons (pv 3) (pa_cons (pv 4) (pa_cons (pv 5) pa_nil)))))
      (pss_cons (ps_set (i := 8) sc_law.nd rfl (Or.inl rfl) (pe_op op_mod (pe_fn F_law_take (hr.mono (by decide)) (pa_cons (pv 1) (pa_cons pe_int pa_nil))) (pe_op op_add (pe_callB call_len_seq (by rfl) m_len (by decide +kernel) (pa_cons (pv 7) pa_nil)) pe_int)))
      (pss_cons (ps_set (i := 9) sc_law.nd rfl (Or.inl rfl) (pe_ve m_ValueError))
      (pss_cons (ps_for PassesOwn.never rfl (pi_list (pe_lst (pa_cons (pe_fn F_law_deep (hr.mono (by decide)) (pa_cons pe_int pa_nil)) (pa_cons (pe_tup (pa_cons (pe_fn F_law_deep (hr.mono (by decide)) (pa_cons pe_int pa_nil)) (pa_cons pe_int pa_nil))) (pa_cons (pe_tup (pa_cons pe_int (pa_cons (pe_fn F_law_deep (hr.mono (by decide)) (pa_cons pe_int pa_nil)) pa_nil))) (pa_cons (pv 9) (pa_cons (pe_tup (pa_cons (pv 9) (pa_cons pe_int pa_nil))) (pa_cons (pe_tup (pa_cons pe_int (pa_cons (pv 9) pa_nil))) pa_nil)))))))) (pg_name (i := 10) sc_law.nd rfl (Or.inl rfl)) (pss_cons (ps_if (pt_fg (pt_cmpR op_notBl (pe_fn F_is_paperZ (hr.mono (by decide)) (pa_cons (pv 3) (pa_cons (pv 4) (pa_cons (pv 5) (pa_cons (pe_op op_cat (pe_op op_cat (pe_slice sl_list (pv 7) po_none (po_some (pv 8))) (pe_lst (pa_cons (pv 10) pa_nil))) (pe_slice sl_list (pv 7) (po_some (pe_op op_add (pv 8) pe_int)) po_none)) pa_nil))))) pe_bl (nomark _))) (pss_one (ps_ret pe_bl)) pss_nil)
      (pss_one (ps_if (pt_cmpR op_notBl (pe_fn F_is_paperZ (hr.mono (by decide)) (pa_cons (pv 3) (pa_cons (pv 4) (pa_cons (pv 5) (pa_cons (pv 10) pa_nil))))) pe_bl (nomark _)) (pss_one (ps_ret pe_bl)) pss_nil))))
      (pss_one (ps_set (i := 2) sc_law.nd rfl (Or.inl rfl) (pe_op op_add (pv 2) pe_int)))))))))))
      (pss_cons (ps_if (pt_fg (pt_cmpR op_notBl (pe_fn F_is_paperZ (hr.mono (by decide)) (pa_cons (pe_lst (pa_cons pe_int (pa_cons pe_int pa_nil))) (pa_cons pe_int (pa_cons pe_int (pa_cons (pe_lst (pa_cons (pe_tup (pa_cons pe_int (pa_cons pe_int pa_nil))) (pa_cons (pe_tup (pa_cons pe_int (pa_cons pe_int pa_nil))) pa_nil))) pa_nil))))) pe_bl (nomark _))) (pss_one (ps_ret pe_bl)) pss_nil)
      (pss_one (ps_ret (pe_and (pe_gn F_law_judged (hr.mono (by decide)) hc (pa_cons (pe_lst (pa_cons pe_int (pa_cons pe_int pa_nil))) (pa_cons pe_int (pa_cons pe_int (pa_cons (pe_lst pa_nil) pa_nil))))) (pe_one (pe_gn F_law_judged (hr.mono (by decide)) hc (pa_cons (pe_lst (pa_cons pe_int (pa_cons pe_int pa_nil))) (pa_cons pe_int (pa_cons pe_int (pa_cons (pe_lst (pa_cons (pe_tup (pa_cons pe_int (pa_cons pe_int pa_nil))) pa_nil)) pa_nil))))))))))))))
end
/-! ### what the top has left -/
def d_law_draws : He.DefD := ⟨("_law_draws", none), "_law_draws", "_law_draws", defArgs s_law_draws, defBody s_law_draws, defScope s_law_draws, [], []⟩
def d_law_take : He.DefD := ⟨("_law_take", none), "_law_take", "_law_take", defArgs s_law_take, defBody s_law_take, defScope s_law_take, [], []⟩
def d_law_row : He.DefD := ⟨("_law_row", none), "_law_row", "_law_row", defArgs s_law_row, defBody s_law_row, defScope s_law_row, [], []⟩
def d_law_made : He.DefD := ⟨("_law_made", none), "_law_made", "_law_made", defArgs s_law_made, defBody s_law_made, defScope s_law_made, [], []⟩
def d_law_last : He.DefD := ⟨("_law_last", none), "_law_last", "_law_last", defArgs s_law_last, defBody s_law_last, defScope s_law_last, [], []⟩
def d_law_number : He.DefD := ⟨("_law_number", none), "_law_number", "_law_number", defArgs s_law_number, defBody s_law_number, defScope s_law_number, [], []⟩
def d_law_next : He.DefD := ⟨("_law_next", none), "_law_next", "_law_next", defArgs s_law_next, defBody s_law_next, defScope s_law_next, [], []⟩
def d_law_gapM : He.DefD := ⟨("_law_gap", none), "_law_gap", "_law_gap", defArgs s_law_gapM, defBody s_law_gapM, defScope s_law_gapM, [], []⟩
def d_law_all : He.DefD := ⟨("_law_all", none), "_law_all", "_law_all", defArgs s_law_all, defBody s_law_all, defScope s_law_all, [], []⟩
def d_law_whole : He.DefD := ⟨("_law_whole", none), "_law_whole", "_law_whole", defArgs s_law_whole, defBody s_law_whole, defScope s_law_whole, [], []⟩
def d_law_bent : He.DefD := ⟨("_law_bent", none), "_law_bent", "_law_bent", defArgs s_law_bent, defBody s_law_bent, defScope s_law_bent, [], []⟩
def d_law_spoilt : He.DefD := ⟨("_law_spoilt", none), "_law_spoilt", "_law_spoilt", defArgs s_law_spoilt, defBody s_law_spoilt, defScope s_law_spoilt, [], []⟩
def d_law_things : He.DefD := ⟨("_law_things", none), "_law_things", "_law_things", defArgs s_law_things, defBody s_law_things, defScope s_law_things, [], []⟩
def d_is_whole : He.DefD := ⟨("is_whole", none), "is_whole", "is_whole", defArgs s_is_whole, defBody s_is_whole, defScope s_is_whole, [], []⟩
def d_is_row : He.DefD := ⟨("is_row", none), "is_row", "is_row", defArgs s_is_row, defBody s_is_row, defScope s_is_row, [], []⟩
def d_need_row : He.DefD := ⟨("need_row", none), "need_row", "need_row", defArgs s_need_row, defBody s_need_row, defScope s_need_row, [], []⟩
def d_is_made : He.DefD := ⟨("is_made", none), "is_made", "is_made", defArgs s_is_made, defBody s_is_made, defScope s_is_made, [], []⟩
def d_is_made_of : He.DefD := ⟨("is_made_of", none), "is_made_of", "is_made_of", defArgs s_is_made_of, defBody s_is_made_of, defScope s_is_made_of, [], []⟩
def d_power_below : He.DefD := ⟨("power_below", none), "power_below", "power_below", defArgs s_power_below, defBody s_power_below, defScope s_power_below, [], []⟩
def d_rests_to : He.DefD := ⟨("rests_to", none), "rests_to", "rests_to", defArgs s_rests_to, defBody s_rests_to, defScope s_rests_to, [], []⟩
def d_right_paper : He.DefD := ⟨("right_paper", none), "right_paper", "right_paper", defArgs s_right_paper, defBody s_right_paper, defScope s_right_paper, [], []⟩
def d_is_far : He.DefD := ⟨("is_far", none), "is_far", "is_far", defArgs s_is_far, defBody s_is_far, defScope s_is_far, [], []⟩
def d_paper_of : He.DefD := ⟨("paper_of", none), "paper_of", "paper_of", defArgs s_paper_of, defBody s_paper_of, defScope s_paper_of, [], []⟩
def d_is_paperZ : He.DefD := ⟨("is_paper", none), "is_paper", "is_paper", defArgs s_is_paperZ, defBody s_is_paperZ, defScope s_is_paperZ, [], []⟩
def d_law_right_paper : He.DefD := ⟨("_law_right_paper", none), "_law_right_paper", "_law_right_paper", defArgs s_law_right_paper, defBody s_law_right_paper, defScope s_law_right_paper, [], []⟩
def d_law_judged : He.DefD := ⟨("_law_judged", none), "_law_judged", "_law_judged", defArgs s_law_judged, defBody s_law_judged, defScope s_law_judged, [], []⟩
def d_law_deep : He.DefD := ⟨("_law_deep", none), "_law_deep", "_law_deep", defArgs s_law_deep, defBody s_law_deep, defScope s_law_deep, [], []⟩
def d_law : He.DefD := ⟨("law", none), "law", "law", defArgs s_law, defBody s_law, defScope s_law, [], []⟩
def fn : List He.DefD := [d_law_draws, d_law_take, d_law_row, d_law_made, d_law_last, d_law_number, d_law_next, d_law_gapM, d_law_all, d_law_whole, d_law_bent, d_law_spoilt, d_law_things, d_is_whole, d_is_row, d_need_row, d_is_made, d_is_made_of, d_power_below, d_rests_to, d_right_paper, d_is_far, d_paper_of, d_is_paperZ, d_law_right_paper, d_law_judged, d_law_deep, d_law]
def fa : List He.Fa := [(.glo "_law_draws" : He.Fa), (.glo "_law_take" : He.Fa), (.glo "_law_row" : He.Fa), (.glo "_law_made" : He.Fa), (.glo "_law_last" : He.Fa), (.glo "_law_number" : He.Fa), (.glo "_law_next" : He.Fa), (.glo "_law_gap" : He.Fa), (.glo "_law_all" : He.Fa), (.glo "_law_whole" : He.Fa), (.glo "_law_bent" : He.Fa), (.glo "_law_spoilt" : He.Fa), (.glo "_law_things" : He.Fa), (.glo "is_whole" : He.Fa), (.glo "is_row" : He.Fa), (.glo "need_row" : He.Fa), (.glo "is_made" : He.Fa), (.glo "is_made_of" : He.Fa), (.glo "power_below" : He.Fa), (.glo "rests_to" : He.Fa), (.glo "right_paper" : He.Fa), (.glo "is_far" : He.Fa), (.glo "paper_of" : He.Fa), (.glo "is_paper" : He.Fa), (.glo "_law_right_paper" : He.Fa), (.glo "_law_judged" : He.Fa), (.glo "_law_deep" : He.Fa), (.glo "law" : He.Fa), (.free "ValueError" : He.Fa), (.free "abs" : He.Fa), (.free "bool" : He.Fa), (.free "dict" : He.Fa), (.free "int" : He.Fa), (.free "isinstance" : He.Fa), (.free "len" : He.Fa), (.free "list" : He.Fa), (.free "max" : He.Fa), (.free "min" : He.Fa), (.free "range" : He.Fa), (.free "repr" : He.Fa), (.free "sorted" : He.Fa), (.free "str" : He.Fa), (.free "tuple" : He.Fa), (.free "zip" : He.Fa), (.int "MOST_PRIMES" 6 : He.Fa), (.glo "PRIMES" : He.Fa)]
def ls : List (Str × List He.Dv) := [("PRIMES", [.int 2, .int 3, .int 5, .int 7, .int 11, .int 13, .int 17, .int 19, .int 23, .int 29, .int 31, .int 37, .int 41, .int 43, .int 47, .int 53, .int 59, .int 61, .int 67, .int 71, .int 73, .int 79, .int 83, .int 89, .int 97])]
abbrev R : PySem.W.OpenRow := PySem.W.OpenLaw.row PySem.Challenge.rw_smallparts_k38_papers_judged
abbrev hk : PySem.W.Hook := hookS 4 fa fn ls
def ob (s : PySem.W.SharedT) : AlS := obsS 4 fa fn ls (HandSHeadRun.getT s)
theorem ob_eq (s : PySem.W.SharedT) : ob s = hk.obs s.abs := obsS_eq (HandSHeadRun.getT_eq s)
def loose : List Str := [("PartError" : Str), ("NoPrimes" : Str), ("PRIMES" : Str), ("MOST_PRIMES" : Str), ("is_whole" : Str), ("is_row" : Str), ("need_row" : Str), ("is_made" : Str), ("is_made_of" : Str), ("rests_to" : Str), ("power_below" : Str), ("is_far" : Str), ("right_paper" : Str), ("paper_of" : Str), ("is_paper" : Str), ("_law_draws" : Str), ("_law_take" : Str), ("_law_row" : Str), ("_law_made" : Str), ("_law_is_made" : Str), ("_law_next" : Str), ("_law_last" : Str), ("_law_number" : Str), ("_law_whole" : Str), ("_law_right_paper" : Str), ("_law_gap" : Str), ("_law_bent" : Str), ("_law_spoilt" : Str), ("_law_all" : Str), ("_law_deep" : Str), ("_law_judged" : Str), ("_law_things" : Str)]
theorem run (w : World) : HandSHeadRun.RunEq R (PySem.W.view R.prog [36]) hk ob 4000 loose w := by
  intro os
  kernel_rfl
theorem facts {P : Program} {w : World} {K : PySem.W.Frag} {h : Heap} {mg : Str → Option Value} {f : Addr} (X : K.In h) (G : h.Ns mainGlobals mg) (hfa : mg ("law" : Str) = some (.ref f)) (c : He.SaysD fa fn K) (cl : (ls.all fun q => He.lstB K q.1 q.2) = true) (cs : sysB K = true) :
    ∃ fd : FuncData, (∀ (s : Shared) (v : Value), BindsTo s fd ⟨[v], []⟩ [("script", v)]) ∧ ∀ base : Heap, K.In base → base.Ns mainGlobals mg → FnG P w K mg base 8 f fd ["script"] (sp_law K) := by
  obtain ⟨fd_law_draws, H_law_draws⟩ := c.def_ 0 (d := d_law_draws) rfl
  obtain ⟨fd_law_take, H_law_take⟩ := c.def_ 1 (d := d_law_take) rfl
  obtain ⟨fd_law_row, H_law_row⟩ := c.def_ 2 (d := d_law_row) rfl
  obtain ⟨fd_law_made, H_law_made⟩ := c.def_ 3 (d := d_law_made) rfl
  obtain ⟨fd_law_last, H_law_last⟩ := c.def_ 4 (d := d_law_last) rfl
  obtain ⟨fd_law_number, H_law_number⟩ := c.def_ 5 (d := d_law_number) rfl
  obtain ⟨fd_law_next, H_law_next⟩ := c.def_ 6 (d := d_law_next) rfl
  obtain ⟨fd_law_gapM, H_law_gapM⟩ := c.def_ 7 (d := d_law_gapM) rfl
  obtain ⟨fd_law_all, H_law_all⟩ := c.def_ 8 (d := d_law_all) rfl
  obtain ⟨fd_law_whole, H_law_whole⟩ := c.def_ 9 (d := d_law_whole) rfl
  obtain ⟨fd_law_bent, H_law_bent⟩ := c.def_ 10 (d := d_law_bent) rfl
  obtain ⟨fd_law_spoilt, H_law_spoilt⟩ := c.def_ 11 (d := d_law_spoilt) rfl
  obtain ⟨fd_law_things, H_law_things⟩ := c.def_ 12 (d := d_law_things) rfl
  obtain ⟨fd_is_whole, H_is_whole⟩ := c.def_ 13 (d := d_is_whole) rfl
  obtain ⟨fd_is_row, H_is_row⟩ := c.def_ 14 (d := d_is_row) rfl
  obtain ⟨fd_need_row, H_need_row⟩ := c.def_ 15 (d := d_need_row) rfl
  obtain ⟨fd_is_made, H_is_made⟩ := c.def_ 16 (d := d_is_made) rfl
  obtain ⟨fd_is_made_of, H_is_made_of⟩ := c.def_ 17 (d := d_is_made_of) rfl
  obtain ⟨fd_power_below, H_power_below⟩ := c.def_ 18 (d := d_power_below) rfl
  obtain ⟨fd_rests_to, H_rests_to⟩ := c.def_ 19 (d := d_rests_to) rfl
  obtain ⟨fd_right_paper, H_right_paper⟩ := c.def_ 20 (d := d_right_paper) rfl
  obtain ⟨fd_is_far, H_is_far⟩ := c.def_ 21 (d := d_is_far) rfl
  obtain ⟨fd_paper_of, H_paper_of⟩ := c.def_ 22 (d := d_paper_of) rfl
  obtain ⟨fd_is_paperZ, H_is_paperZ⟩ := c.def_ 23 (d := d_is_paperZ) rfl
  obtain ⟨fd_law_right_paper, H_law_right_paper⟩ := c.def_ 24 (d := d_law_right_paper) rfl
  obtain ⟨fd_law_judged, H_law_judged⟩ := c.def_ 25 (d := d_law_judged) rfl
  obtain ⟨fd_law_deep, H_law_deep⟩ := c.def_ 26 (d := d_law_deep) rfl
  obtain ⟨fd_law, H_law⟩ := c.def_ 27 (d := d_law) rfl
  have hS := cs
  have m_ValueError := He.free_ok X G (c.fact 28 (f := .free "ValueError") rfl)
  have m_abs := He.free_ok X G (c.fact 29 (f := .free "abs") rfl)
  have m_bool := He.free_ok X G (c.fact 30 (f := .free "bool") rfl)
  have m_dict := He.free_ok X G (c.fact 31 (f := .free "dict") rfl)
  have m_int := He.free_ok X G (c.fact 32 (f := .free "int") rfl)
  have m_isinstance := He.free_ok X G (c.fact 33 (f := .free "isinstance") rfl)
  have m_len := He.free_ok X G (c.fact 34 (f := .free "len") rfl)
  have m_list := He.free_ok X G (c.fact 35 (f := .free "list") rfl)
  have m_max := He.free_ok X G (c.fact 36 (f := .free "max") rfl)
  have m_min := He.free_ok X G (c.fact 37 (f := .free "min") rfl)
  have m_range := He.free_ok X G (c.fact 38 (f := .free "range") rfl)
  have m_repr := He.free_ok X G (c.fact 39 (f := .free "repr") rfl)
  have m_sorted := He.free_ok X G (c.fact 40 (f := .free "sorted") rfl)
  have m_str := He.free_ok X G (c.fact 41 (f := .free "str") rfl)
  have m_tuple := He.free_ok X G (c.fact 42 (f := .free "tuple") rfl)
  have m_zip := He.free_ok X G (c.fact 43 (f := .free "zip") rfl)
  have g_MOST_PRIMES := He.int_ok X G (c.fact 44 (f := .int "MOST_PRIMES" 6) rfl)
  have g_PRIMES := He.glo_ok X G (c.fact 45 (f := .glo "PRIMES") rfl)
  have hP_PRIMES : PrAt K (He.ga K "PRIMES") := fun H => He.lstB_ok (lst_fact cl 0 rfl) H
  have g_law_draws := He.glo_ok X G (c.fact 0 (f := .glo "_law_draws") rfl)
  have g_law_take := He.glo_ok X G (c.fact 1 (f := .glo "_law_take") rfl)
  have g_law_row := He.glo_ok X G (c.fact 2 (f := .glo "_law_row") rfl)
  have g_law_made := He.glo_ok X G (c.fact 3 (f := .glo "_law_made") rfl)
  have g_law_last := He.glo_ok X G (c.fact 4 (f := .glo "_law_last") rfl)
  have g_law_number := He.glo_ok X G (c.fact 5 (f := .glo "_law_number") rfl)
  have g_law_next := He.glo_ok X G (c.fact 6 (f := .glo "_law_next") rfl)
  have g_law_gapM := He.glo_ok X G (c.fact 7 (f := .glo "_law_gap") rfl)
  have g_law_all := He.glo_ok X G (c.fact 8 (f := .glo "_law_all") rfl)
  have g_law_whole := He.glo_ok X G (c.fact 9 (f := .glo "_law_whole") rfl)
  have g_law_bent := He.glo_ok X G (c.fact 10 (f := .glo "_law_bent") rfl)
  have g_law_spoilt := He.glo_ok X G (c.fact 11 (f := .glo "_law_spoilt") rfl)
  have g_law_things := He.glo_ok X G (c.fact 12 (f := .glo "_law_things") rfl)
  have g_is_whole := He.glo_ok X G (c.fact 13 (f := .glo "is_whole") rfl)
  have g_is_row := He.glo_ok X G (c.fact 14 (f := .glo "is_row") rfl)
  have g_need_row := He.glo_ok X G (c.fact 15 (f := .glo "need_row") rfl)
  have g_is_made := He.glo_ok X G (c.fact 16 (f := .glo "is_made") rfl)
  have g_is_made_of := He.glo_ok X G (c.fact 17 (f := .glo "is_made_of") rfl)
  have g_power_below := He.glo_ok X G (c.fact 18 (f := .glo "power_below") rfl)
  have g_rests_to := He.glo_ok X G (c.fact 19 (f := .glo "rests_to") rfl)
  have g_right_paper := He.glo_ok X G (c.fact 20 (f := .glo "right_paper") rfl)
  have g_is_far := He.glo_ok X G (c.fact 21 (f := .glo "is_far") rfl)
  have g_paper_of := He.glo_ok X G (c.fact 22 (f := .glo "paper_of") rfl)
  have g_is_paperZ := He.glo_ok X G (c.fact 23 (f := .glo "is_paper") rfl)
  have g_law_right_paper := He.glo_ok X G (c.fact 24 (f := .glo "_law_right_paper") rfl)
  have g_law_judged := He.glo_ok X G (c.fact 25 (f := .glo "_law_judged") rfl)
  have g_law_deep := He.glo_ok X G (c.fact 26 (f := .glo "_law_deep") rfl)
  have g_law := He.glo_ok X G (c.fact 27 (f := .glo "law") rfl)
  have e := hfa.symm.trans g_law
  cases e
  have b := FunD.bindsA (ps := ["script"]) H_law fun _ _ _ _ _ _ us hl => match us, hl with | [_], _ => rfl
  refine ⟨fd_law, fun s v => b s [v] rfl, fun base _ _ => ?_⟩
  have F_law_draws := ok_law_draws (P := P) (w := w) (base := base) H_law_draws g_law_draws m_abs m_len m_min m_range
  have F_law_take := ok_law_take (P := P) (w := w) (base := base) H_law_take g_law_take 
  have F_law_row := ok_law_row (P := P) (w := w) (base := base) H_law_row g_law_row F_law_take m_len m_range m_sorted
  have F_law_made := ok_law_made (P := P) (w := w) (base := base) H_law_made g_law_made m_int m_list m_sorted
  have F_law_last := ok_law_last (P := P) (w := w) (base := base) H_law_last g_law_last F_law_made m_max
  have F_law_number := ok_law_number (P := P) (w := w) (base := base) H_law_number g_law_number F_law_take m_int m_max m_min m_range
  have F_law_next := ok_law_next (P := P) (w := w) (base := base) H_law_next g_law_next F_law_made m_min
  have F_law_gapM := ok_law_gapM (P := P) (w := w) (base := base) H_law_gapM g_law_gapM F_law_number F_law_last F_law_next F_law_take m_max m_min
  have F_law_all := ok_law_all (P := P) (w := w) (base := base) H_law_all g_law_all F_law_made
  have F_law_whole := ok_law_whole (P := P) (w := w) (base := base) H_law_whole g_law_whole m_bool m_int m_isinstance
  have F_law_bent := ok_law_bent (P := P) (w := w) (base := base) H_law_bent g_law_bent F_law_whole F_law_take m_isinstance m_len m_list m_str m_tuple
  have F_law_spoilt := ok_law_spoilt (P := P) (w := w) (base := base) H_law_spoilt g_law_spoilt F_law_take F_law_bent m_len
  have F_law_things := ok_law_things (P := P) (w := w) (base := base) H_law_things g_law_things F_law_all F_law_spoilt m_dict m_list m_max m_str m_tuple hS
  have F_is_whole := ok_is_whole (P := P) (w := w) (base := base) H_is_whole g_is_whole m_bool m_int m_isinstance
  have F_is_row := ok_is_row (P := P) (w := w) (base := base) H_is_row g_is_row F_is_whole m_isinstance m_len m_list m_zip g_MOST_PRIMES g_PRIMES hP_PRIMES
  have F_need_row := ok_need_row (P := P) (w := w) (base := base) H_need_row g_need_row F_is_row
  have F_is_made := ok_is_made (P := P) (w := w) (base := base) H_is_made g_is_made 
  have F_is_made_of := ok_is_made_of (P := P) (w := w) (base := base) H_is_made_of g_is_made_of F_need_row F_is_whole F_is_made
  have F_power_below := ok_power_below (P := P) (w := w) (base := base) H_power_below g_power_below 
  have F_rests_to := ok_rests_to (P := P) (w := w) (base := base) H_rests_to g_rests_to m_int m_list m_sorted
  have F_right_paper := ok_right_paper (P := P) (w := w) (base := base) H_right_paper g_right_paper F_rests_to F_power_below
  have F_is_far := ok_is_far (P := P) (w := w) (base := base) H_is_far g_is_far m_range
  have F_paper_of := ok_paper_of (P := P) (w := w) (base := base) H_paper_of g_paper_of F_is_made_of F_right_paper F_is_far
  have F_is_paperZ := ok_is_paperZ (P := P) (w := w) (base := base) H_is_paperZ g_is_paperZ F_paper_of m_bool m_int m_isinstance m_len m_list m_tuple m_zip
  have F_law_right_paper := ok_law_right_paper (P := P) (w := w) (base := base) H_law_right_paper g_law_right_paper F_law_made
  have F_law_judged := ok_law_judged (P := P) (w := w) (base := base) H_law_judged g_law_judged F_law_right_paper F_is_paperZ m_bool m_isinstance m_range m_repr hS
  have F_law_deep := ok_law_deep (P := P) (w := w) (base := base) H_law_deep g_law_deep m_range
  exact ok_law H_law F_law_draws F_law_row F_law_take F_law_gapM F_law_things F_law_judged F_law_all F_law_deep F_is_paperZ m_ValueError m_int m_len
end K38
open PySem PySem.W PySem.Calls PyProof.Rows
theorem PySem.Challenge.cw_smallparts_k38_papers_judged_holds : PySem.Challenge.rw_smallparts_k38_papers_judged.Holds := by
  w_on; o_law
  refine HandSHeadRun.head_any (r := OpenLaw.row PySem.Challenge.rw_smallparts_k38_papers_judged) (q := view (OpenLaw.row PySem.Challenge.rw_smallparts_k38_papers_judged).prog [36]) (H := K38.hk) (ob := K38.ob) (M := 4000) (loose := K38.loose) (d := HandSHeadRun.topDef (OpenLaw.row PySem.Challenge.rw_smallparts_k38_papers_judged).prog 36) (kwd := []) K38.ob_eq
    (by kernel_rfl) (fun s => by kernel_rfl) K38.run (by kernel_rfl) (by kernel_rfl) (by kernel_rfl) (by rfl) (by first | assumption | decide +kernel) (by decide +kernel) ⟨rfl, rfl, rfl, rfl, rfl, by decide +kernel⟩ ?hw ?hc
  case hw => w_witness2
  case hc =>
    refine Px.walkG (l := PySem.Challenge.rw_smallparts_k38_papers_judged) (n := 63) (k := 8) (x := "script") rfl (by decide) (by kernel_rfl) ⟨rfl, by decide, by decide⟩ ?F
    intro w mg fa h Y G hmg0
    obtain ⟨K, KX, c, cl, cs⟩ := Y
    have hmg : mg ("law" : PySem.Str) = some (.ref fa) := by
      have e : (HandSHeadRun.topDef (OpenLaw.row PySem.Challenge.rw_smallparts_k38_papers_judged).prog 36).name = ("law" : PySem.Str) := by kernel_rfl
      rw [← e]
      exact hmg0
    obtain ⟨fd, hb, hF⟩ := K38.facts (P := (PySem.Challenge.rw_smallparts_k38_papers_judged).prog) (w := w) KX G hmg c cl cs
    exact ⟨K, fd, Px.sp_law K, KX, hb, fun H a ns hl ho hS => ⟨Px.nod_only ho, a, ns, rfl, hS, hl, fun _ => rfl⟩, hF⟩
