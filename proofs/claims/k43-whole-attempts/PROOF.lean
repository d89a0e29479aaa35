import PyProof.Rows.All
import Wide.All
import OpenK.AllK
import Wide.FinOn
import HandS.ForMost
import HandS.ForExc
import HandS.More
import KE.KExcSuper
import HandS.Nested
import HandS.ExcInit
import HandS.ClsMeth
import HandS.Star
import HandS.HotCalls
import HandS.ExcIs
import HandS.ExcField
import HandS.Defaults
import HandS.Finally
import KE.KWithOwn
import KE.KExcIs
import HandS.IsInst
import HandS.NoneIn
import HandS.Steps
import HandS.Conv
import HandS.Dict
import HandS.HeadHook2
import HandS.Head0
import HandS.Head1
import HandS.Head2
import HandS.HeadHook3
import HandS.Property
import KE.KStateDown
import KE.KEqSeq
import HandS.Text
import KE.GoesMore
import PyProof.EnumMake
import HandS.Iter
import HandS.MakeKwOnly
import HandS.HeadEnd
import PySem.Challenge.RW_latelink_k43_whole_attempts_are_all_or_n
set_option Elab.async false
section
set_option Elab.async false
set_option linter.all false
set_option maxRecDepth 100000
set_option maxHeartbeats 4000000
/-! own layer A: the frame rule -/
namespace Lay
open PySem PySem.Spec PyProof.Rows L2

/-! ### heaps joined -/
def joi (G F : Hp) : Hp := fun b => match G b with
  | some o => some o
  | none => F b
/-- H without what G tracks -/
def dif (H G : Hp) : Hp := fun b => match G b with
  | some _ => none
  | none => H b
def Disj (G F : Hp) : Prop := ∀ b, G b = none ∨ F b = none
/-- what leans on nothing else -/
def simp1 : HO → Bool
  | .lst _ => true
  | .tup _ => true
  | .dK _ => true
  | .set _ _ => true
  | .xd _ => true
  | .rng _ _ => true
  | .met _ _ => true
  | .tbl _ => true
  | .ext _ => true
  | .frz _ (.lst _) => true
  | _ => false
/-- every object leans on nothing, but instances and their own dicts, which stand together -/
structure Good (G : Hp) : Prop where
  kind : ∀ a o, G a = some o → simp1 o = true ∨ (∃ C dx fs, o = .ins C dx fs) ∨ ∃ x, o = .own x
  clo : ∀ a C dx fs, G a = some (.ins C dx fs) → G dx = some (.own a)
  back : ∀ d a, G d = some (.own a) → ∃ C fs, G a = some (.ins C d fs)
theorem joi_l {G F : Hp} {b : Addr} {o : HO} (h : G b = some o) : joi G F b = some o := by unfold joi; rw [h]
theorem joi_r {G F : Hp} {b : Addr} (h : G b = none) : joi G F b = F b := by unfold joi; rw [h]
theorem dif_r {H G : Hp} {b : Addr} (h : G b = none) : dif H G b = H b := by unfold dif; rw [h]
theorem dif_l {H G : Hp} {b : Addr} {o : HO} (h : G b = some o) : dif H G b = none := by unfold dif; rw [h]
theorem dif_none {H G : Hp} {b : Addr} (h : H b = none) : dif H G b = none := by
  cases e : G b with
  | none => rw [dif_r e, h]
  | some o => exact dif_l e
theorem dif_some {H G : Hp} {b : Addr} {o : HO} (h : dif H G b = some o) : G b = none ∧ H b = some o := by
  cases e : G b with
  | none => rw [dif_r e] at h; exact ⟨rfl, h⟩
  | some u => rw [dif_l e] at h; cases h
theorem joi_none {G F : Hp} {b : Addr} (h : joi G F b = none) : G b = none ∧ F b = none := by
  cases e : G b with
  | none => rw [joi_r e] at h; exact ⟨rfl, h⟩
  | some o => rw [joi_l e] at h; cases h
theorem joi_dif {H G : Hp} (e : Same G H) : joi G (dif H G) = H := by
  funext b
  cases h : G b with
  | none => rw [joi_r h, dif_r h]
  | some o => rw [joi_l h, e b o h]
theorem same_joi {G F : Hp} : Same G (joi G F) := fun _ _ h => joi_l h
theorem same_joi_r {G F : Hp} (d : Disj G F) : Same F (joi G F) := fun b o h => by
  rcases d b with z | z
  · rw [joi_r z]; exact h
  · rw [z] at h; cases h
theorem disj_dif {H G : Hp} : Disj G (dif H G) := fun b => by
  cases e : G b with
  | none => exact .inl rfl
  | some o => exact .inr (dif_l e)
theorem Disj.symm {G F : Hp} (d : Disj G F) : Disj F G := fun b => (d b).symm


/-! ### a part of what is tracked -/
theorem objOk_part {P : Program} {w : World} {H G : Hp} {h h' : Heap} {a : Addr} {o : HO} (x : ObjOk P w H h a o) (k : ∀ b u, (b = a ∨ ∃ C dx fs, o = .ins C dx fs ∧ b = dx) → h.get? b = some u → h'.get? b = some u)
    (ho : ∀ C dx fs, o = .ins C dx fs → G dx = some (.own a)) (hs : simp1 o = true ∨ (∃ C dx fs, o = .ins C dx fs) ∨ ∃ x, o = .own x) : ObjOk P w G h' a o := by
  cases o with
  | lst xs => obtain ⟨z, its, n, r, e⟩ := x; exact ⟨z, its, n, r, k _ _ (.inl rfl) e⟩
  | tup xs => obtain ⟨z, its, r, ob, e, c⟩ := x; exact ⟨z, its, r, ob, k _ _ (.inl rfl) e, c⟩
  | dK kvs => obtain ⟨z, y, vs, r, ob, es, ep, e, c⟩ := x; exact ⟨z, y, vs, r, ob, es, ep, k _ _ (.inl rfl) e, c⟩
  | dT kvs => rcases hs with z | ⟨_, _, _, z⟩ | ⟨_, z⟩ <;> cases z
  | set S n => obtain ⟨ob, es, ep, t, e, c⟩ := x; exact ⟨ob, es, ep, t, k _ _ (.inl rfl) e, c⟩
  | ins C dx fs =>
    obtain ⟨d, z, ne, e, mA, ⟨od, es, ep, e2, c⟩, r⟩ := x
    exact ⟨ho C dx fs rfl, z, ne, k _ _ (.inl rfl) e, mA, ⟨od, es, ep, k _ _ (.inr ⟨C, dx, fs, rfl, rfl⟩) e2, c⟩, r⟩
  | own y => obtain ⟨ob, e⟩ := x; exact ⟨ob, k _ _ (.inl rfl) e⟩
  | xd fs => obtain ⟨mA, ⟨od, es, ep, e, c⟩, r⟩ := x; exact ⟨mA, ⟨od, es, ep, k _ _ (.inl rfl) e, c⟩, r⟩
  | rng lo hi => obtain ⟨t, u, v, e⟩ := x; exact ⟨t, u, v, k _ _ (.inl rfl) e⟩
  | frz ob u =>
    cases u with
    | lst xs => obtain ⟨e1, z, its, n, r, e⟩ := x; exact ⟨k _ _ (.inl rfl) e1, z, its, n, r, k _ _ (.inl rfl) e⟩
    | _ => rcases hs with z | ⟨_, _, _, z⟩ | ⟨_, z⟩ <;> cases z
  | tbl ps =>
    have e : h.get? a = some { cls := .none, data := .fields ps } := x
    show h'.get? a = some { cls := .none, data := .fields ps }
    exact k a _ (.inl rfl) e
  | met f y =>
    have e : h.get? a = some (PySem.W.methodObj (.ref f) (.ref y)) := x
    show h'.get? a = some (PySem.W.methodObj (.ref f) (.ref y))
    exact k a _ (.inl rfl) e
  | ext φ => obtain ⟨p, ⟨ob, e⟩, st⟩ := x; exact ⟨st _ _ p fun o q => k _ _ (.inl rfl) q, ⟨ob, k _ _ (.inl rfl) e⟩, st⟩
/-- more is tracked beside -/
theorem objOk_more {P : Program} {w : World} {G H : Hp} {h : Heap} {a : Addr} {o : HO} (x : ObjOk P w G h a o) (e : Same G H) : ObjOk P w H h a o :=
  x.stay (fun _ _ _ z => z) (fun b q => e _ _ q) (fun b xs q => e _ _ q)
theorem objOk_at {P : Program} {w : World} {H : Hp} {h : Heap} {b : Addr} {o : HO} (x : ObjOk P w H h b o) : ∃ ob, h.get? b = some ob := by
  cases o with
  | lst xs => obtain ⟨_, _, _, _, e⟩ := x; exact ⟨_, e⟩
  | tup xs => obtain ⟨_, _, _, ob, e, _⟩ := x; exact ⟨_, e⟩
  | dK kvs => obtain ⟨_, _, _, _, o, _, _, e, _⟩ := x; exact ⟨_, e⟩
  | dT kvs => obtain ⟨_, _, _, _, o, _, _, e, _⟩ := x; exact ⟨_, e⟩
  | set S n => obtain ⟨o, _, _, _, e, _⟩ := x; exact ⟨_, e⟩
  | ins C dx fs => obtain ⟨_, _, _, e, _⟩ := x; exact ⟨_, e⟩
  | own y => obtain ⟨_, e⟩ := x; exact ⟨_, e⟩
  | xd fs => obtain ⟨_, ⟨_, _, _, e, _⟩, _⟩ := x; exact ⟨_, e⟩
  | rng lo hi => obtain ⟨_, _, _, e⟩ := x; exact ⟨_, e⟩
  | frz ob u => obtain ⟨e, _⟩ := x; exact ⟨_, e⟩
  | tbl ps => exact ⟨_, x⟩
  | met f y => exact ⟨_, x⟩
  | ext φ => obtain ⟨_, ⟨_, e⟩, _⟩ := x; exact ⟨_, e⟩
section
variable {P : Program} {w : World} {H G F G' : Hp} {h h' : Heap}
theorem hok_part (x : HOk P w H h) (e : Same G H) (g : Good G) : HOk P w G h := fun a o q =>
  objOk_part (x a o (e a o q)) (fun _ _ _ z => z) (fun C dx fs eo => g.clo a C dx fs (by rw [q, eo])) (g.kind a o q)
theorem hok_join (x : HOk P w G' h') (y : HOk P w F h) (d : Disj G' F) (g : Good F) (k : ∀ b o, F b = some o → ∀ u, h.get? b = some u → h'.get? b = some u) : HOk P w (joi G' F) h' := fun a o q => by
  cases e : G' a with
  | some u =>
    rw [joi_l e] at q
    have eo : u = o := Option.some.inj q
    rw [← eo]
    exact objOk_more (x a u e) same_joi
  | none =>
    rw [joi_r e] at q
    refine objOk_part (y a o q) (fun b u hb z => ?_) (fun C dx fs eo => same_joi_r d _ _ (g.clo a C dx fs (by rw [q, eo]))) (g.kind a o q)
    rcases hb with hb | ⟨C, dx, fs, eo, hb⟩
    · exact k b o (by rw [hb]; exact q) u z
    · exact k b (.own a) (by rw [hb]; exact g.clo a C dx fs (by rw [q, eo])) u z
/-- the frame's objects are kept by a run over G -/
theorem un_joi {fs : List Addr} (u : Un fs [] G G' h h') (d : Disj G F) (ff : ∀ b ∈ fs, F b = none) (lt : ∀ b o, F b = some o → ∃ ob, h.get? b = some ob) :
    Disj G' F ∧ Un fs [] (joi G F) (joi G' F) h h' ∧ ∀ b o, F b = some o → ∀ ob, h.get? b = some ob → h'.get? b = some ob := by
  have gn : ∀ b o, F b = some o → G b = none := fun b o q => (d b).resolve_right fun z => by rw [z] at q; cases q
  have dj : Disj G' F := fun b => by
    cases e : F b with
    | none => exact .inr rfl
    | some o =>
      obtain ⟨ob, e1⟩ := lt b o e
      exact .inl (u.free b ob e1 (gn b o e) (by simp))
  refine ⟨dj, ⟨fun b o q n hb hx => u.keep b o q (joi_none n).1 hb hx, fun b o q n hb hx => u.slot b o q (joi_none n).1 hb hx, fun b o q n hx => ?_, u.there, fun b xs q => ?_, fun b o z q => ?_, fun b ps q => ?_⟩, fun b o q ob z => ?_⟩
  · rw [joi_r (u.free b o q (joi_none n).1 hx)]
    exact (joi_none n).2
  · cases e : G b with
    | some o => rw [joi_l e] at q; exact joi_l (u.tups b xs (by rw [e, q]))
    | none => rw [joi_r e] at q; exact same_joi_r dj _ _ q
  · cases e : G b with
    | some o' => rw [joi_l e] at q; exact joi_l (u.frzs b o z (by rw [e, q]))
    | none => rw [joi_r e] at q; exact same_joi_r dj _ _ q
  · cases e : G b with
    | some o' =>
      rw [joi_l e] at q
      obtain ⟨m, z⟩ := u.tbls b ps (by rw [e, q])
      exact ⟨m, joi_l z⟩
    | none => rw [joi_r e] at q; exact ⟨#[], by rw [same_joi_r dj _ _ q]; simp⟩
  · exact u.keep b ob z (gn b o q) (fun hb => by rw [ff b hb] at q; cases q) (by simp)
end
/-- THE FRAME: sp is kept over the part G of what is tracked, the rest F stands -/
def Frm (sp : Sp) : Sp := fun vs H Q E => ∃ G F, Good G ∧ Good F ∧ Disj G F ∧ H = joi G F ∧ sp vs G (fun v G' => Disj G' F → Q v (joi G' F)) (fun c d G' => Disj G' F → E c d (joi G' F))
section
variable {P : Program} {w : World} {K : PySem.W.Frag} {mg : Str → Option Value} {base : Heap} {k : Nat} {f : Addr} {sp : Sp}
theorem env0_part {A : Around} {outer : List Env} {s : Shared} {G F : Hp} (e0 : Env0 P w K mg base A outer s (joi G F)) (g : Good G) : Env0 P w K mg base A outer s G :=
  ⟨e0.frames, e0.mod, fun b o q => ⟨(e0.bs b o q).1, (joi_none (e0.bs b o q).2).1⟩, e0.bsz, e0.funs, fun b hb => (joi_none (e0.frf b hb)).1, hok_part e0.hok same_joi g, e0.bare⟩
theorem FnR.frm0 (F : FnR P w K mg base CX0 k f sp) : FnR P w K mg base CX0 k f (Frm sp) := by
  intro A outer s H us vs Q E hr e0 r hs
  obtain ⟨G, Fr, gG, gF, d, eH, h⟩ := hs
  subst eH
  refine codeAny_mono (F A outer s G us vs _ _ hr (env0_part e0 gG) r h) fun rr s' hq => ?_
  cases rr with
  | error e => exact False.elim hq
  | ok fl =>
    cases fl with
    | ret u =>
      obtain ⟨v, G', os, bare, un, hok, rv, q⟩ := hq
      obtain ⟨dj, un2, k⟩ := un_joi un d (fun b hb => (joi_none (e0.frf b hb)).2) fun b o q => objOk_at (e0.hok b o (same_joi_r d b o q))
      exact ⟨v, joi G' Fr, os, bare, un2, hok_join hok (hok_part e0.hok (same_joi_r d) gF) dj gF k, rv, q dj⟩
    | next => exact False.elim hq
    | brk => exact False.elim hq
    | cont => exact False.elim hq
theorem FnR.frmX (F : FnR P w K mg base (L2.CX P w) k f sp) : FnR P w K mg base (L2.CX P w) k f (Frm sp) := by
  intro A outer s H us vs Q E hr e0 r hs
  obtain ⟨G, Fr, gG, gF, d, eH, h⟩ := hs
  subst eH
  have ffr : ∀ b ∈ frs outer, Fr b = none := fun b hb => (joi_none (e0.frf b hb)).2
  have fat : ∀ b o, Fr b = some o → ∃ ob, s.heap.get? b = some ob := fun b o q => objOk_at (e0.hok b o (same_joi_r d b o q))
  refine codeAny_mono (F A outer s G us vs _ _ hr (env0_part e0 gG) r h) fun rr s' hq => ?_
  cases rr with
  | error e =>
    obtain ⟨a, B, G', cls, dd, ea, fl, hok, ub, na, os, ag, hE⟩ := hq
    have gn : ∀ b o, Fr b = some o → G b = none := fun b o q => (d b).resolve_right fun z => by rw [z] at q; cases q
    have kB : ∀ b o, Fr b = some o → ∀ ob, s.heap.get? b = some ob → B.get? b = some ob := fun b o q ob z => ub.keep b ob z (gn b o q) fun hb => by rw [ffr b hb] at q; cases q
    have dj : Disj G' Fr := fun b => by
      cases z : Fr b with
      | none => exact .inr rfl
      | some o =>
        obtain ⟨ob, e1⟩ := fat b o z
        exact .inl (ub.free b ob e1 (gn b o z))
    refine ⟨a, B, joi G' Fr, cls, dd, ea, fl, hok_join hok (hok_part e0.hok (same_joi_r d) gF) dj gF kB, ⟨fun b o q n hb => ub.keep b o q (joi_none n).1 hb, ub.slot, fun b o q n => ?_, ub.there, fun b xs q => ?_, fun b o z q => ?_, fun b ps q => ?_⟩, ?_, os, ag, hE dj⟩
    · rw [joi_r (ub.free b o q (joi_none n).1)]
      exact (joi_none n).2
    · cases e : G b with
      | some o => rw [joi_l e] at q; exact joi_l (ub.tups b xs (by rw [e, q]))
      | none => rw [joi_r e] at q; exact same_joi_r dj _ _ q
    · cases e : G b with
      | some o' => rw [joi_l e] at q; exact joi_l (ub.frzs b o z (by rw [e, q]))
      | none => rw [joi_r e] at q; exact same_joi_r dj _ _ q
    · cases e : G b with
      | some o' =>
        rw [joi_l e] at q
        obtain ⟨m, z⟩ := ub.tbls b ps (by rw [e, q])
        exact ⟨m, joi_l z⟩
      | none => rw [joi_r e] at q; exact ⟨#[], by rw [same_joi_r dj _ _ q]; simp⟩
    · rw [joi_r na]
      cases z : Fr a with
      | none => rfl
      | some o =>
        obtain ⟨ob, e1⟩ := fat a o z
        have z2 := kB a o z ob e1
        rw [fl.2.1] at z2
        cases z2
  | ok fl =>
    cases fl with
    | ret u =>
      obtain ⟨v, G', os, bare, un, hok, rv, q⟩ := hq
      obtain ⟨dj, un2, k⟩ := un_joi un d ffr fat
      exact ⟨v, joi G' Fr, os, bare, un2, hok_join hok (hok_part e0.hok (same_joi_r d) gF) dj gF k, rv, q dj⟩
    | next => exact False.elim hq
    | brk => exact False.elim hq
    | cont => exact False.elim hq
/-- a def that may raise, where it does not -/
theorem FnR.calm (F : FnR P w K mg base (L2.CX P w) k f sp) : FnR P w K mg base CX0 k f (fun vs H Q _ => sp vs H Q fun _ _ _ => False) := by
  intro A outer s H us vs Q E hr e0 r hs
  refine codeAny_mono (F A outer s H us vs Q _ hr e0 r hs) fun rr s' hq => ?_
  cases rr with
  | error e =>
    obtain ⟨_, _, _, _, _, _, _, _, _, _, _, _, z⟩ := hq
    exact z.elim
  | ok fl => cases fl <;> exact hq
/-- a def that raises nothing, as one that may -/
theorem FnR.wide {CX : CXT} (F : FnR P w K mg base CX0 k f sp) : FnR P w K mg base CX k f sp := by
  intro A outer s H us vs Q E hr e0 r hs
  refine codeAny_mono (F A outer s H us vs Q E hr e0 r hs) fun rr s' hq => ?_
  cases rr with
  | error e => exact False.elim hq
  | ok fl => cases fl <;> exact hq
end

/-! ### what only grows -/
def Ext (H H' : Hp) : Prop := Same H H' ∧ (Good H → Good H')
theorem Ext.refl (H : Hp) : Ext H H := ⟨Same.refl H, fun g => g⟩
theorem Ext.trans {H H1 H2 : Hp} (a : Ext H H1) (b : Ext H1 H2) : Ext H H2 := ⟨a.1.trans b.1, fun g => b.2 (a.2 g)⟩
theorem Good.new {H : Hp} {p : Addr} {o : HO} (g : Good H) (hp : H p = none) (ho : simp1 o = true) : Good (upd H p o) where
  kind := fun a u e => by
    by_cases h : a = p
    · subst h; rw [upd_same] at e; cases e; exact .inl ho
    · rw [upd_ne h] at e; exact g.kind a u e
  clo := fun a C dx fs e => by
    by_cases h : a = p
    · subst h; rw [upd_same] at e; cases e; cases ho
    · rw [upd_ne h] at e
      have q := g.clo a C dx fs e
      rw [upd_ne (ne_of_none q hp)]; exact q
  back := fun d a e => by
    by_cases h : d = p
    · subst h; rw [upd_same] at e; cases e; cases ho
    · rw [upd_ne h] at e
      obtain ⟨C, fs, q⟩ := g.back d a e
      exact ⟨C, fs, by rw [upd_ne (ne_of_none q hp)]; exact q⟩
theorem Ext.new {H : Hp} {p : Addr} {o : HO} (hp : H p = none) (ho : simp1 o = true := by rfl) : Ext H (upd H p o) :=
  ⟨fun a u e => by rw [upd_ne (ne_of_none e hp)]; exact e, fun g => g.new hp ho⟩
/-- an object of no instance's is changed -/
theorem Good.put {H : Hp} {p : Addr} {o u : HO} (g : Good H) (hp : H p = some u) (hu : simp1 u = true) (ho : simp1 o = true) : Good (upd H p o) where
  kind := fun a v e => by
    by_cases h : a = p
    · subst h; rw [upd_same] at e; cases e; exact .inl ho
    · rw [upd_ne h] at e; exact g.kind a v e
  clo := fun a C dx fs e => by
    by_cases h : a = p
    · subst h; rw [upd_same] at e; cases e; cases ho
    · rw [upd_ne h] at e
      have q := g.clo a C dx fs e
      rw [upd_ne (fun z => by rw [z, hp] at q; cases q; cases hu)]; exact q
  back := fun d a e => by
    by_cases h : d = p
    · subst h; rw [upd_same] at e; cases e; cases ho
    · rw [upd_ne h] at e
      obtain ⟨C, fs, q⟩ := g.back d a e
      exact ⟨C, fs, by rw [upd_ne (fun z => by rw [z, hp] at q; cases q; cases hu)]; exact q⟩
/-- an instance's fields are changed -/
theorem Good.fld {H : Hp} {a C dx : Addr} {fs fs' : List (Str × V)} (g : Good H) (ha : H a = some (.ins C dx fs)) : Good (upd H a (.ins C dx fs')) where
  kind := fun b v e => by
    by_cases h : b = a
    · subst h; rw [upd_same] at e; cases e; exact .inr (.inl ⟨_, _, _, rfl⟩)
    · rw [upd_ne h] at e; exact g.kind b v e
  clo := fun b C' dx' fs1 e => by
    by_cases h : b = a
    · subst h; rw [upd_same] at e; cases e
      have q := g.clo _ _ _ _ ha
      rw [upd_ne (fun z => by rw [z, ha] at q; cases q)]; exact q
    · rw [upd_ne h] at e
      have q := g.clo b C' dx' fs1 e
      rw [upd_ne (fun z => by rw [z, ha] at q; cases q)]; exact q
  back := fun d b e => by
    by_cases h : d = a
    · subst h; rw [upd_same] at e; cases e
    · rw [upd_ne h] at e
      obtain ⟨C', fs1, q⟩ := g.back d b e
      by_cases hb : b = a
      · subst hb
        rw [ha] at q; cases q
        exact ⟨_, _, upd_same⟩
      · exact ⟨C', fs1, by rw [upd_ne hb]; exact q⟩
/-- a new instance and its dict -/
theorem Good.made {H : Hp} {x dx C : Addr} {fs : List (Str × V)} (g : Good H) (hx : H x = none) (hd : H dx = none) (ne : dx ≠ x) : Good (upd (upd H dx (.own x)) x (.ins C dx fs)) where
  kind := fun b v e => by
    by_cases h : b = x
    · subst h; rw [upd_same] at e; cases e; exact .inr (.inl ⟨_, _, _, rfl⟩)
    · rw [upd_ne h] at e
      by_cases h2 : b = dx
      · subst h2; rw [upd_same] at e; cases e; exact .inr (.inr ⟨_, rfl⟩)
      · rw [upd_ne h2] at e; exact g.kind b v e
  clo := fun b C' dx' fs1 e => by
    by_cases h : b = x
    · subst h; rw [upd_same] at e; cases e
      rw [upd_ne ne, upd_same]
    · rw [upd_ne h] at e
      by_cases h2 : b = dx
      · subst h2; rw [upd_same] at e; cases e
      · rw [upd_ne h2] at e
        have q := g.clo b C' dx' fs1 e
        rw [upd_ne (ne_of_none q hx), upd_ne (ne_of_none q hd)]; exact q
  back := fun d b e => by
    by_cases h : d = x
    · subst h; rw [upd_same] at e; cases e
    · rw [upd_ne h] at e
      by_cases h2 : d = dx
      · subst h2; rw [upd_same] at e; cases e
        exact ⟨C, fs, upd_same⟩
      · rw [upd_ne h2] at e
        obtain ⟨C', fs1, q⟩ := g.back d b e
        exact ⟨C', fs1, by rw [upd_ne (ne_of_none q hx), upd_ne (ne_of_none q hd)]; exact q⟩
theorem Ext.made {H : Hp} {x dx C : Addr} {fs : List (Str × V)} (hx : H x = none) (hd : H dx = none) (ne : dx ≠ x) : Ext H (upd (upd H dx (.own x)) x (.ins C dx fs)) :=
  ⟨fun b o e => by rw [upd_ne (ne_of_none e hx), upd_ne (ne_of_none e hd)]; exact e, fun g => g.made hx hd ne⟩
/-- what H does not know may change -/
theorem Ext.mut {H H' : Hp} {p : Addr} {o u : HO} (e : Ext H H') (h : H p = none) (hp : H' p = some u) (hu : simp1 u = true := by rfl) (ho : simp1 o = true := by rfl) : Ext H (upd H' p o) :=
  ⟨fun a v ha => by rw [upd_ne (ne_of_none ha h)]; exact e.1 a v ha, fun g => (e.2 g).put hp hu ho⟩
theorem Ext.mutF {H H' : Hp} {a C dx : Addr} {fs fs' : List (Str × V)} (e : Ext H H') (h : H a = none) (ha : H' a = some (.ins C dx fs)) : Ext H (upd H' a (.ins C dx fs')) :=
  ⟨fun b v hb => by rw [upd_ne (ne_of_none hb h)]; exact e.1 b v hb, fun g => (e.2 g).fld ha⟩
theorem Good.joi {G F : Hp} (g : Good G) (f : Good F) (d : Disj G F) : Good (joi G F) where
  kind := fun a o e => by
    cases z : G a with
    | some u => rw [joi_l z] at e; exact g.kind a o (by rw [z, e])
    | none => rw [joi_r z] at e; exact f.kind a o e
  clo := fun a C dx fs e => by
    cases z : G a with
    | some u => rw [joi_l z] at e; exact joi_l (g.clo a C dx fs (by rw [z, e]))
    | none => rw [joi_r z] at e; exact same_joi_r d _ _ (f.clo a C dx fs e)
  back := fun dd a e => by
    cases z : G dd with
    | some u =>
      rw [joi_l z] at e
      obtain ⟨C, fs, q⟩ := g.back dd a (by rw [z, e])
      exact ⟨C, fs, joi_l q⟩
    | none =>
      rw [joi_r z] at e
      obtain ⟨C, fs, q⟩ := f.back dd a e
      exact ⟨C, fs, same_joi_r d _ _ q⟩
theorem Good.dif {H G : Hp} (h : Good H) (g : Good G) (e : Same G H) : Good (dif H G) where
  kind := fun a o q => h.kind a o (dif_some q).2
  clo := fun a C dx fs q => by
    obtain ⟨n, q2⟩ := dif_some q
    have z := h.clo a C dx fs q2
    cases y : G dx with
    | none => rw [dif_r y]; exact z
    | some u =>
      have y2 := e dx u y
      rw [z] at y2
      cases y2
      obtain ⟨C', fs', y3⟩ := g.back dx a y
      rw [n] at y3
      cases y3
  back := fun d a q => by
    obtain ⟨n, q2⟩ := dif_some q
    obtain ⟨C, fs, z⟩ := h.back d a q2
    refine ⟨C, fs, ?_⟩
    cases y : G a with
    | none => rw [dif_r y]; exact z
    | some u =>
      have y2 := e a u y
      rw [z] at y2
      cases y2
      have y3 := g.clo a C d fs y
      rw [n] at y3
      cases y3
/-- what is new in H' -/
def neo (H H' : Hp) : Hp := dif H' H
theorem neo_some {H H' : Hp} {b : Addr} {o : HO} (h : neo H H' b = some o) : H b = none ∧ H' b = some o := dif_some h
theorem neo_of {H H' : Hp} {b : Addr} {o : HO} (h : H b = none) (h' : H' b = some o) : neo H H' b = some o := by
  unfold neo
  rw [dif_r h]
  exact h'
theorem same_neo {H H' : Hp} : Same (neo H H') H' := fun b o h => (neo_some h).2

/-! ### calls by positional promises -/
section
variable {X : Cx} {CX : CXT} {k : Nat} {f C : Addr} {sp : Sp} {E : L2.St → XK} {x m : Str} {p pos apos : Pos} {e o : Expr} {es : List Expr} {ta : TE} {t : TA}
theorem run_RS {pins : List (Addr × Obj)} {σ : L2.St} {H : Hp} {s : Shared} {Q : VK} {us : List Value} {vs : List V} (F : FnR X.prog X.w X.K X.mg X.base CX k f sp) (hr : Room k X.A) (hx : PassesAt CX X σ (E σ))
    (I : Inv X pins σ H s) (r : Vals vs us) (h : sp vs H Q (E σ)) : wpAny (model X.prog X.w) X.A (call (.ref f) us) (EP X pins σ Q) X.xe s := by
  refine wpAny_call (codeAny_mono (F X.A X.stack s H us vs Q (E σ) hr I.env0 r h) fun r s' hq => ?_)
  cases r with
  | error e => exact hx pins H s e s' I hq
  | ok fl =>
    cases fl with
    | ret u => exact I.after hq
    | next => exact False.elim hq
    | brk => exact False.elim hq
    | cont => exact False.elim hq
theorem pe_callR (F : FnR X.prog X.w X.K X.mg X.base CX k f sp) (hr : Room k X.A) (hg : Gl X x) (hm : X.mg x = some (.ref f)) (hk : PySem.W.keepIn X.K (.ref f) = true) (hx : ∀ σ, PassesAt CX X σ (E σ))
    (ha : PA X (e :: es) t) (hdb : (x == ("__debug__" : Str)) = false := by decide) (he : starEach (e :: es) X.env = (false, eval e X.env) :: starEach es X.env := by rfl) (hpl : (backTo pos (starEach es X.env)).any (·.1) = false := by rfl) :
    PE X (.Call (.Name x p) (e :: es) [] pos) (tCallS sp E t) := by
  refine ⟨fun pins s σ H Q I h => ?_⟩
  refine wpAny_Call_Name_kw (ld_glob I hg hm ?_ hdb)
  refine PySem.W.callWith_K (h₀ := X.base) I.ok.mod.kin hk (thn (ha.run pos pins s σ H _ I h) fun us s1 ⟨vs, H1, I1, r, q⟩ => ⟨I1.kIn, ?_⟩) he hpl
  exact run_RS F hr (hx σ) I1 r q
theorem pe_callR0 (F : FnR X.prog X.w X.K X.mg X.base CX k f sp) (hr : Room k X.A) (hg : Gl X x) (hm : X.mg x = some (.ref f)) (hk : PySem.W.keepIn X.K (.ref f) = true) (hx : ∀ σ, PassesAt CX X σ (E σ))
    (hdb : (x == ("__debug__" : Str)) = false := by decide) : PE X (.Call (.Name x p) [] [] pos) (tCallS sp E tNil) := by
  refine ⟨fun pins s σ H Q I h => ?_⟩
  refine wpAny_Call_Name_kw (ld_glob I hg hm ?_ hdb)
  exact PySem.W.callWith_K0 I.kIn hk (run_RS (us := []) F hr (hx σ) I .nil h)
/-- o.m(e, ..) -/
def tMethE (C : Addr) (m : Str) (sp : Sp) (E : L2.St → XK) (ta : TE) (t : TA) : TE := fun σ H Q => ta σ H fun x H1 => ∃ a dx fs, x = .ref a ∧ H1 a = some (.ins C dx fs) ∧ fs.lookup m = none ∧ t σ H1 fun vs H2 => sp (x :: vs) H2 Q (E σ)
theorem pe_methE {pl : Sem Bool} (he : PE X o ta) (c : Cls X.K C) (hm : Meth X.K C m f) (F : FnR X.prog X.w X.K X.mg X.base CX k f sp) (hr : Room k X.A) (hx : ∀ σ, PassesAt CX X σ (E σ)) (ha : PA X (e :: es) t)
    (hst : starEach (e :: es) X.env = (false, eval e X.env) :: starEach es X.env := by rfl) (hpl : (backTo pos (starEach es X.env)).any (·.1) = false := by rfl)
    (ht : eval (.Call (.Attribute o m apos) (e :: es) [] pos) X.env = (do
      let ov ← eval o X.env
      standAt apos.atName
      let (f, first) ← holding [ov] (getMethod ov m pl)
      callWith pos f first (backTo pos (starEach (e :: es) X.env)) (backToKw pos (keywordEach [] X.env))) := by rfl) :
    PE X (.Call (.Attribute o m apos) (e :: es) [] pos) (tMethE C m sp E ta t) := by
  refine ⟨fun pins s σ H Q I h => ?_⟩
  refine PySem.W.methodCall_KW (pl := pl) (thn (he.run pins s σ H _ I h) fun u s1 ⟨x, H1, I1, rx, a, dx, fs, ex, ea, l, q⟩ => ?_) ht
  subst ex
  obtain rfl : u = Value.ref a := rx
  refine getmeth_ok I1 ea c hm l ?_
  refine PySem.W.callWith_K (first := [.ref a]) (h₀ := X.base) I.ok.mod.kin hm.kp (thn (ha.run pos pins s1 σ H1 _ I1 q) fun us s2 ⟨vs, H2, I2, r, q2⟩ => ⟨I2.kIn, ?_⟩) hst hpl
  exact run_RS (us := .ref a :: us) (vs := .ref a :: vs) F hr (hx σ) I2 (.cons rfl r) q2
theorem pe_methE0 {pl : Sem Bool} (he : PE X o ta) (c : Cls X.K C) (hm : Meth X.K C m f) (F : FnR X.prog X.w X.K X.mg X.base CX k f sp) (hr : Room k X.A) (hx : ∀ σ, PassesAt CX X σ (E σ))
    (ht : eval (.Call (.Attribute o m apos) [] [] pos) X.env = (do
      let ov ← eval o X.env
      standAt apos.atName
      let (f, first) ← holding [ov] (getMethod ov m pl)
      callWith pos f first (backTo pos (starEach [] X.env)) (backToKw pos (keywordEach [] X.env))) := by rfl) :
    PE X (.Call (.Attribute o m apos) [] [] pos) (tMethE C m sp E ta tNil) := by
  refine ⟨fun pins s σ H Q I h => ?_⟩
  refine PySem.W.methodCall_KW (pl := pl) (thn (he.run pins s σ H _ I h) fun u s1 ⟨x, H1, I1, rx, a, dx, fs, ex, ea, l, q⟩ => ?_) ht
  subst ex
  obtain rfl : u = Value.ref a := rx
  refine getmeth_ok I1 ea c hm l ?_
  exact PySem.W.callWith_K0 (first := [.ref a]) I1.kIn hm.kp (run_RS (us := [.ref a]) (vs := [.ref a]) F hr (hx σ) I1 (.cons rfl .nil) q)
end
theorem at0 {X : Cx} : ∀ σ : L2.St, PassesAt CX0 X σ ((fun _ => E0) σ) := fun _ _ _ _ _ _ _ h => h.elim
/-- in a body of a def that may raise -/
theorem atX {X : Cx} {E : XK} (tk : Takes X (fun cls d _ H => E cls d H)) : ∀ σ : L2.St, PassesAt (L2.CX X.prog X.w) X σ ((fun _ => E) σ) := fun σ => passAt tk σ
end Lay
end
section
set_option Elab.async false
set_option linter.all false
set_option maxRecDepth 100000
set_option maxHeartbeats 4000000
/-! own layer B: defs that say super() -/
namespace Lay
open PySem PySem.Spec PyProof.Rows L2

/-! ### judgements at the def's own code -/
structure PEA (X : Cx) (c : Code) (e : Expr) (t : TE) : Prop where
  run : ∀ (pins : List (Addr × Obj)) (s : Shared) (σ : L2.St) (H : Hp) (Q : VK), Inv X pins σ H s → t σ H Q → PySem.wpAt (model X.prog X.w) X.A c (eval e X.env) (EP X pins σ Q) X.xe s
structure PSA (X : Cx) (c : Code) (st : Stmt) (t : TS) : Prop where
  run : ∀ (pins : List (Addr × Obj)) (s : Shared) (σ : L2.St) (H : Hp) (D : Ends), Inv X pins σ H s → t D σ H → PySem.wpAt (model X.prog X.w) X.A c (exec st X.env) (SP X pins D) X.xe s
structure PSsA (X : Cx) (c : Code) (b : List Stmt) (t : TS) : Prop where
  run : ∀ (pins : List (Addr × Obj)) (s : Shared) (σ : L2.St) (H : Hp) (D : Ends), Inv X pins σ H s → t D σ H → PySem.wpAt (model X.prog X.w) X.A c (execs b X.env) (SP X pins D) X.xe s
section
variable {X : Cx} {c : Code} {st : Stmt} {rest : List Stmt} {t u : TS} {e : Expr} {te : TE} {pos p' : Pos} {x : Str} {i : Nat}
theorem pssA_cons (h : PSA X c st t) (r : PSs X rest u) : PSsA X c (st :: rest) (tSeq t u) := by
  refine ⟨fun pins s σ H D I hq => ks_wpAt_execs_cons (ks_wpAt_mono (h.run pins s σ H { D with nx := u D } I hq) (fun f s1 q => ?_) fun _ _ z => z)⟩
  cases f with
  | next =>
    obtain ⟨σ', H', I', q'⟩ := q
    exact wpAt_of_wpAny (r.run pins s1 σ' H' D I' q')
  | ret v => exact q
  | brk => exact q
  | cont => exact q
theorem psA_set (hN : X.N.Nodup) (hi : X.N[i]? = some x) (hx : Loc X.env.scope x) (h : PEA X c e te) (hs : swapsWith e (some (.Name x p')) pos.line X.env = pure false := by rfl)
    (hf : X.fn x = true ∨ X.env.scope.names.lookup x = some .local := by first | exact .inl rfl | exact .inr rfl) : PSA X c (.Assign [.Name x p'] e pos) (tAsg te (gName i)) := by
  refine ⟨fun pins s σ H D I hq => ks_wpAt_Assign_Name (ks_wpAt_mono (h.run pins s σ H _ I hq) (fun v s1 z => ?_) fun _ _ z => z) hs⟩
  obtain ⟨y, H1, I1, r1, q1⟩ := z
  exact store_ok I1 hN hi hx r1 (fun s2 I2 => ⟨_, H1, I2, q1⟩) hf
theorem psA_expr (h : PEA X c e te) (hi : interactive X.env = false := by rfl) (hs : swapsWith e none pos.line X.env = pure false := by rfl) : PSA X c (.Expr e pos) (tDrop te) := by
  refine ⟨fun pins s σ H D I hq => ks_wpAt_Expr_any (ks_wpAt_mono (h.run pins s σ H _ I hq) (fun v s1 z => ?_) fun _ _ z => z) hi hs⟩
  obtain ⟨y, H1, I1, r1, q1⟩ := z
  exact ⟨σ, H1, I1, q1⟩
end

/-! ### a def whose closure holds its class -/
/-- a def of the class at D as it stands behind the top: its closure is the cell cc, which holds D -/
structure FunC (K : PySem.W.Frag) (x qual : Str) (params : Arguments) (body : List Stmt) (scope : Scope) (D f : Addr) : Prop where
  ex : ∃ (oc doc pm ct : Value) (od : Option Addr) (c cc : Addr) (osl : Array (Option Value)) (cl : Value) (cld : Option Addr) (csl : Array (Option Value)),
    K.lookup f = some ⟨oc, od, .func (PySem.W.fnX x qual params body scope [("__class__", cc)] .none .none doc pm none (.ref c) ct), osl⟩ ∧ PySem.W.codeIn K (.ref c) qual = true ∧ K.lookup cc = some ⟨cl, cld, .cell (some (.ref D)), csl⟩
/-- what a super() in it leans on -/
structure SupC (P : Program) (K : PySem.W.Frag) (f D : Addr) (slf : Str) : Prop where
  code : ∀ (oc : Value) (od : Option Addr) (fd : FuncData) (osl : Array (Option Value)) (c : Addr), K.lookup f = some ⟨oc, od, .func fd, osl⟩ → fd.code = .ref c →
    ∃ (ccl : Value) (cdd : Option Addr) (vs : Array Value) (ccs : Array (Option Value)) (file : Str) (tf : Tok), K.lookup c = some ⟨ccl, cdd, .fields vs, ccs⟩ ∧ vs[2]? = some (.str file tf) ∧ ((P.main.file : Str) == file) = true
  cls : ∃ cd, PySem.W.clsIn K D = some cd
  sup : PySem.W.nsIn K mainGlobals "super" = some none
  top : (P.main.scope.names.lookup ("super" : Str)).isSome = false
  opq : PySem.W.nsIn K cStatics "thirdparty.any" = some none
/-- the context of such a body -/
abbrev cxC (CX : CXT) (P : Program) (w : World) (K : PySem.W.Frag) (mg : Str → Option Value) (base : Heap) (N : List Str) (F : NdefX.NF) (f : Addr) (A : Around) (outer : List Env) (s : Shared) (H : Hp) (E : XK) : Cx := NdefX.ncx CX P w K mg base N F f A outer s H E
section
variable {P : Program} {w : World} {K : PySem.W.Frag} {mg : Str → Option Value} {base : Heap}
/-- THE RULE for such a def -/
theorem fnR_super {CX : CXT} {x qual : Str} {params : Arguments} {body : List Stmt} {scope : Scope} {D f : Addr} {N ps : List Str} {k : Nat} {sp : Sp} (F : FunC K x qual params body scope D f) (S : NdefX.NScope N ps ["__class__"] scope)
    (hb : ∀ (cl : List (Str × Addr)) (doc pm cdv ct : Value) (us : List Value), us.length = ps.length → bindArgs (PySem.W.fnX x qual params body scope cl .none .none doc pm none cdv ct) ⟨us, []⟩ = pure (ps.zip us)) (len : ∀ vs H Q E, sp vs H Q E → vs.length = ps.length)
    (hbody : ∀ (c cc : Addr) (oc doc pm ct cl : Value) (od cld : Option Addr) (osl csl : Array (Option Value)) (A : Around) (outer : List Env) (s : Shared) (H : Hp) (vs : List V) (Q : VK) (E : XK),
      K.lookup f = some ⟨oc, od, .func (PySem.W.fnX x qual params body scope [("__class__", cc)] .none .none doc pm none (.ref c) ct), osl⟩ → K.lookup cc = some ⟨cl, cld, .cell (some (.ref D)), csl⟩ →
      Room k (A.deeper (NdefX.envF ⟨x, qual, params, body, scope, [("__class__", cc)], c⟩ f s.heap.objs.size)) → sp vs H Q E →
      ∃ t, PSsA (cxC CX P w K mg base N ⟨x, qual, params, body, scope, [("__class__", cc)], c⟩ f A outer s H E) (.func body (NdefX.envF ⟨x, qual, params, body, scope, [("__class__", cc)], c⟩ f s.heap.objs.size)) body t ∧
        t { nx := fun _ H' => Q .non H', rt := Q } (NdefX.startF N vs [some (.ref D)]) H) : FnR P w K mg base CX (k + 1) f sp := by
  obtain ⟨oc, doc, pm, ct, od, c, cc, osl, cl, cld, csl, lk, hcd, lc⟩ := F.ex
  intro A outer s H us vs Q E hr e0 r hsp
  have hl := len _ _ _ _ hsp
  have KX : K.In s.heap := e0.mod.kin.keeps fun b o e => (e0.bs b o e).1
  have lim : s.heap.NoLimit := e0.mod.nolimit.keeps fun b o e => (e0.bs b o e).1
  have ccb := e0.mod.kin _ _ lc
  have C : NdefX.CellsAt [("__class__", cc)] ["__class__"] [some (.ref D)] s.heap H := by
    refine ⟨rfl, fun y c' e => ?_, fun y z c' e1 e2 => ?_, fun i y e => ?_⟩
    · have ec : c' = cc := by
        have e' := PySem.mem_of_lookup e
        simp at e'
        exact e'.2
      rw [ec]
      exact ⟨(e0.bs _ _ ccb).2, ⟨_, _, (e0.bs _ _ ccb).1, rfl⟩⟩
    · have q1 := PySem.mem_of_lookup e1
      have q2 := PySem.mem_of_lookup e2
      simp at q1 q2
      rw [q1.1, q2.1]
    · cases i with
      | zero =>
        have ey : y = "__class__" := (Option.some.inj e).symm
        refine ⟨cc, ?_, fun v ev => ?_⟩
        · rw [ey]
          simp [List.lookup]
        · have ev' : V.ref D = v := Option.some.inj (Option.some.inj ev)
          exact ⟨.ref D, by rw [← ev']; rfl, _, (e0.bs _ _ ccb).1, rfl⟩
      | succ i => simp at e
  refine codeAny_call_function hr.depth (KX _ _ lk) rfl S.co S.gen rfl (PySem.W.codeRec_of KX hcd) ?_
  rw [hb _ _ _ _ _ us (by rw [← r.length]; exact hl)]
  refine wpAny_pure (wpAny_newFunctionEnv S.nocell (fun ⟨n, _⟩ hy => S.par n (List.of_mem_zip hy).1) (fun h₁ hns hsb => ⟨lim.fresh _ hsb, ?_⟩) S.kind)
  show codeAny _ _ (.func body (NdefX.envF ⟨x, qual, params, body, scope, [("__class__", cc)], c⟩ f s.heap.objs.size)) _ _
  have kp : ∀ b o, s.heap.get? b = some o → h₁.get? b = some o := fun b o e => hsb.extBut b o (Nat.ne_of_lt (Heap.lt_size e)) (Heap.get?_push_of_some _ e)
  obtain ⟨t, ht, hq⟩ := hbody c cc oc doc pm ct cl od cld osl csl A outer s H vs Q E lk lc (hr.deeper _) hsp
  have I : Inv (cxC CX P w K mg base N ⟨x, qual, params, body, scope, [("__class__", cc)], c⟩ f A outer s H E) [] (NdefX.startF N vs [some (.ref D)]) H { s with heap := h₁, toks := s.toks + (ps.zip us).length } := NdefX.inv_startN (F := ⟨x, qual, params, body, scope, [("__class__", cc)], c⟩) S hr.hd e0 hl r C hns kp
  refine ks_codeAny_funcAt (ks_wpAt_mono (ht.run [] _ (NdefX.startF N vs [some (.ref D)]) H _ I hq) (fun fl s' hs => ?_) fun e s' hs => hs)
  have fin : ∀ {σ' : L2.St} {H' : Hp} {v : V} {u : Value}, Inv (cxC CX P w K mg base N ⟨x, qual, params, body, scope, [("__class__", cc)], c⟩ f A outer s H E) [] σ' H' s' → L2.RelV v u → Q v H' → CE outer P w H s Q u s' :=
    fun {σ' H' v u} J rv q => ⟨v, H', J.os, J.bare, J.base, J.hok, rv, q⟩
  cases fl with
  | ret u =>
    obtain ⟨v, σ', H', J, rv, q⟩ := hs
    exact fin J rv q
  | next =>
    obtain ⟨σ', H', J, q⟩ := hs
    exact fin (v := V.non) (u := Value.none) J rfl q
  | brk =>
    obtain ⟨_, _, _, q⟩ := hs
    exact False.elim q
  | cont =>
    obtain ⟨_, _, _, q⟩ := hs
    exact False.elim q
end

/-! ### super() -/
section
variable {CX : CXT} {P : Program} {w : World} {K : PySem.W.Frag} {mg : Str → Option Value} {base : Heap} {N ps : List Str} {nm qual : Str} {params : Arguments} {body : List Stmt} {scope : Scope} {D f cc c a C : Addr} {A : Around} {outer : List Env} {s0 s : Shared} {H0 H : Hp} {E : XK}
  {pins : List (Addr × Obj)} {σ : L2.St} {slf : Str} {ox : Obj} {odx : Option Obj}
abbrev cxF (CX : CXT) (P : Program) (w : World) (K : PySem.W.Frag) (mg : Str → Option Value) (base : Heap) (N : List Str) (nm qual : Str) (params : Arguments) (body : List Stmt) (scope : Scope) (cc c f : Addr) (A : Around) (outer : List Env) (s0 : Shared) (H0 : Hp) (E : XK) : Cx :=
  cxC CX P w K mg base N ⟨nm, qual, params, body, scope, [("__class__", cc)], c⟩ f A outer s0 H0 E
theorem sup_base {oc doc pm ct cl : Value} {od cld : Option Addr} {osl csl : Array (Option Value)} {ar : Arg} {p0 p1 : Pos} {attr : Str} {whole : Sem Value} {Q : Value → Shared → Prop} {EE : Value → Shared → Prop}
    (I : Inv (cxF CX P w K mg base N nm qual params body scope cc c f A outer s0 H0 E) pins σ H s) (S : NdefX.NScope N ps ["__class__"] scope) (T : SupC P K f D slf)
    (lk : K.lookup f = some ⟨oc, od, .func (PySem.W.fnX nm qual params body scope [("__class__", cc)] .none .none doc pm none (.ref c) ct), osl⟩) (lc : K.lookup cc = some ⟨cl, cld, .cell (some (.ref D)), csl⟩)
    (hp : (params.posonlyargs ++ params.args).head? = some ar) (ha : ar.arg = slf) (hN : N[0]? = some slf) (hs : slf ∈ ps) (hσ : σ[0]? = some (some (.ref a))) (hsu : scope.names.lookup ("super" : Str) = some .globalImplicit) (hat : (attr == ("__class__" : Str)) = false)
    (J : PySem.W.InstAt s.heap a ox C odx) (hsub : PySem.W.mroIn K C (.ref D) = some true)
    (h : ∀ h' : Heap, (∀ b o, s.heap.get? b = some o → h'.get? b = some o) → h'.get? s.heap.objs.size = some (PySem.W.ks_superObj D a C) → Q (.ref s.heap.objs.size) { s with heap := h' }) :
    PySem.wpAt (model P w) (cxF CX P w K mg base N nm qual params body scope cc c f A outer s0 H0 E).A (.func body (cxF CX P w K mg base N nm qual params body scope cc c f A outer s0 H0 E).env)
      (attributeBase (.Call (.Name "super" p0) [] [] p1) attr (cxF CX P w K mg base N nm qual params body scope cc c f A outer s0 H0 E).env whole) Q EE s := by
  have KX : K.In s.heap := I.kIn
  have hk : (cxF CX P w K mg base N nm qual params body scope cc c f A outer s0 H0 E).env.scope.kind = .function := S.kind
  have hks : (cxF CX P w K mg base N nm qual params body scope cc c f A outer s0 H0 E).env.kindOf "super" = some .globalImplicit := hsu
  have hkc : (cxF CX P w K mg base N nm qual params body scope cc c f A outer s0 H0 E).env.kindOf "__class__" = some .free := S.frk _ (List.Mem.head _)
  have hka : (cxF CX P w K mg base N nm qual params body scope cc c f A outer s0 H0 E).env.kindOf slf = some .local := S.par _ hs
  obtain ⟨ccl, cdd, vs, ccs, file, tf, hcode, hvs, hfile⟩ := T.code _ _ _ _ _ lk rfl
  obtain ⟨cdD, hD⟩ := T.cls
  obtain ⟨oD, hD1, hD2⟩ : ∃ oD, s.heap.get? D = some oD ∧ oD.data = .cls cdD := by
    unfold PySem.W.clsIn at hD
    split at hD
    · rename_i c d cd' sl ho
      cases hD
      exact ⟨_, KX _ _ ho, rfl⟩
    · cases hD
  obtain ⟨m, hn, hl⟩ := id I.loc
  obtain ⟨u, ru, lu⟩ := hl 0 slf (.ref a) hN hσ (.inl hka)
  have eu : u = Value.ref a := ru
  subst eu
  have hv : m slf = some (.ref a) := by
    rcases lu with ⟨_, q⟩ | ⟨q, _⟩
    · exact q
    · rw [hka] at q
      rcases q with q | q <;> cases q
  obtain ⟨mb, hb1, hb2⟩ := I.mod.blt
  obtain ⟨hh, g, d, t, os⟩ := s
  refine ks_wpAt_super_base (env := (cxF CX P w K mg base N nm qual params body scope cc c f A outer s0 H0 E).env) hks hkc hat rfl (KX _ _ lk) rfl hp rfl (KX _ _ hcode) rfl hvs hfile T.top ?_
  refine PySem.W.ks_loadName_global hk hks (Calls.loadGlobal_builtin (by exact I.mod.glob.keeps I.bk) (PySem.W.mg_none_of I.mod.kin I.mod.glob T.sup) (by exact hb1.keeps I.bk) ((hb2 _ (by decide +kernel)).trans (by decide +kernel : bootBuiltins "super" = some (.type "super"))) ⟨rfl, ?_⟩)
  refine wpAny_loadName_free (env := (cxF CX P w K mg base N nm qual params body scope cc c f A outer s0 H0 E).env) hk hkc (show [(("__class__" : Str), cc)].lookup ("__class__" : Str) = some cc by simp [List.lookup]) ⟨_, KX _ _ lc, rfl⟩ ?_
  rw [ha]
  refine wpAny_loadName_local hk hka hn hv ?_
  refine ks_wpAny_isType_cls hD1 hD2 ⟨rfl, ?_⟩
  refine ks_wpAny_call_super hD1 hD2 J.at_ J.cls (fun c e => ?_) (PySem.W.looks_mroIn KX hsub) (fun h' e k => ?_)
  · have z := J.no
    unfold PySem.W.notCls at z
    rw [e] at z
    exact Bool.noConfusion z
  · exact h h' k e
/-- super().m(..) is the def at f2 -/
structure SupM (K : PySem.W.Frag) (C D : Addr) (m : Str) (f2 : Addr) : Prop where
  sub : PySem.W.mroIn K C (.ref D) = some true
  fnd : PySem.W.ks_superIn K C D m = some (some (.ref f2))
  typ : PySem.W.typeIn K (.ref f2) = some (.type "function")
  fi : PySem.W.fnIn K f2 = true
def tSup (K : PySem.W.Frag) (D : Addr) (m : Str) (f2 : Addr) (sp : Sp) (E : XK) (t : TA) : TE := fun σ H Q => ∃ (a C dx : Addr) (fs : List (Str × V)), σ[0]? = some (some (.ref a)) ∧ H a = some (.ins C dx fs) ∧ SupM K C D m f2 ∧ Cls K C ∧ t σ H fun vs H2 => sp (.ref a :: vs) H2 Q E
theorem peA_super {CX2 : CXT} {oc doc pm ct cl : Value} {od cld : Option Addr} {osl csl : Array (Option Value)} {ar : Arg} {p0 p1 p2 pos : Pos} {m : Str} {e : Expr} {es : List Expr} {t : TA} {f2 : Addr} {sp : Sp} {E2 : XK} {k : Nat} {pl : Sem Bool}
    (S : NdefX.NScope N ps ["__class__"] scope) (T : SupC P K f D slf) (lk : K.lookup f = some ⟨oc, od, .func (PySem.W.fnX nm qual params body scope [("__class__", cc)] .none .none doc pm none (.ref c) ct), osl⟩) (lc : K.lookup cc = some ⟨cl, cld, .cell (some (.ref D)), csl⟩)
    (hp : (params.posonlyargs ++ params.args).head? = some ar) (ha : ar.arg = slf) (hN : N[0]? = some slf) (hs : slf ∈ ps) (hsu : scope.names.lookup ("super" : Str) = some .globalImplicit) (hat : (m == ("__class__" : Str)) = false)
    (F : FnR P w K mg base CX2 k f2 sp) (hr : Room k (cxF CX P w K mg base N nm qual params body scope cc c f A outer s0 H0 E).A) (hx : Passes CX2 (cxF CX P w K mg base N nm qual params body scope cc c f A outer s0 H0 E) E2) (hargs : PA (cxF CX P w K mg base N nm qual params body scope cc c f A outer s0 H0 E) (e :: es) t)
    (hst : starEach (e :: es) (cxF CX P w K mg base N nm qual params body scope cc c f A outer s0 H0 E).env = (false, eval e (cxF CX P w K mg base N nm qual params body scope cc c f A outer s0 H0 E).env) :: starEach es (cxF CX P w K mg base N nm qual params body scope cc c f A outer s0 H0 E).env := by rfl)
    (hpl : (backTo pos (starEach es (cxF CX P w K mg base N nm qual params body scope cc c f A outer s0 H0 E).env)).any (·.1) = false := by rfl)
    (he : eval (.Call (.Attribute (.Call (.Name "super" p0) [] [] p1) m p2) (e :: es) [] pos) (cxF CX P w K mg base N nm qual params body scope cc c f A outer s0 H0 E).env = (do
      let ov ← attributeBase (.Call (.Name "super" p0) [] [] p1) m (cxF CX P w K mg base N nm qual params body scope cc c f A outer s0 H0 E).env (eval (.Call (.Name "super" p0) [] [] p1) (cxF CX P w K mg base N nm qual params body scope cc c f A outer s0 H0 E).env)
      standAt p2.atName
      let (fv, first) ← holding [ov] (getMethod ov m pl)
      callWith pos fv first (backTo pos (starEach (e :: es) (cxF CX P w K mg base N nm qual params body scope cc c f A outer s0 H0 E).env)) []) := by rfl) :
    PEA (cxF CX P w K mg base N nm qual params body scope cc c f A outer s0 H0 E) (.func body (cxF CX P w K mg base N nm qual params body scope cc c f A outer s0 H0 E).env) (.Call (.Attribute (.Call (.Name "super" p0) [] [] p1) m p2) (e :: es) [] pos) (tSup K D m f2 sp E2 t) := by
  refine ⟨fun pins s σ H Q I h => ?_⟩
  obtain ⟨a, C, dx, fs, hσ, ea, M, cl', q⟩ := h
  obtain ⟨mA, O, _, _, _, _⟩ := ins_get I.hok ea
  obtain ⟨odj, J, _⟩ := O.look
  refine ks_wpAt_MethodCall (pl := pl) ?_ he
  refine sup_base I S T lk lc hp ha hN hs hσ hsu hat J M.sub fun h' k hso => ?_
  have I1 : Inv (cxF CX P w K mg base N nm qual params body scope cc c f A outer s0 H0 E) pins σ H { s with heap := h' } := I.kept (t' := s.toks) k
  have X1 : K.In h' := I1.kIn
  have J1 : PySem.W.InstAt h' a (PySem.W.instObj C dx) C (some odj) := by
    obtain ⟨j1, j2, j3, j4⟩ := J
    exact ⟨k _ _ j1, j2, j3, k _ _ j4⟩
  cases hc : PySem.W.clsIn K C with
  | none =>
    have z := M.fnd
    unfold PySem.W.ks_superIn at z
    rw [hc] at z
    cases z
  | some cd =>
    have z := M.fnd
    unfold PySem.W.ks_superIn at z
    rw [hc] at z
    obtain ⟨of, hof, hofc⟩ : ∃ of, h'.get? f2 = some of ∧ of.cls = .type "function" := by
      have ht' : (K.lookup f2).map (·.cls) = some (.type "function") := M.typ
      cases y : K.lookup f2 with
      | none => rw [y] at ht'; cases ht'
      | some of => rw [y] at ht'; exact ⟨of, X1 _ _ y, Option.some.inj ht'⟩
    refine ks_wpAny_getMethod_super hso (PySem.W.looks_opaque X1 T.opq) (l₀ := cd.mro) (fun A' Q' E' s' k' q' => wpAny_bind ((PySem.W.looks_clsIn X1 hc) A' _ E' s' k' (wpAny_pure q'))) rfl X1 z hof hofc (PySem.W.ks_ne X1 J1 hc) hat ?_
    have I2 := ClX.met_new (g := f2) (C := a) I1
    refine ClX.callwith_cm I2 (ClX.base_none I1 (Nat.le_refl _)) M.fi (thn (hargs.run pos _ _ σ H _ I2 q) fun us s3 hh => ?_) hst hpl
    obtain ⟨vs, H2, I3, rv, q2⟩ := hh
    exact ⟨⟨ClX.pin_at I3, I3.kIn⟩, ClX.run_cm F hr hx I3 rv q2⟩
/-- super().__init__(..) is ValueError's -/
structure SupI (K : PySem.W.Frag) (C D : Addr) : Prop where
  sub : PySem.W.mroIn K C (.ref D) = some true
  fnd : PySem.W.ks_superIn K C D "__init__" = some (some (.builtin "ValueError.__init__"))
  ve : PySem.W.subIn K (.ref C) (.type "ValueError") = some true
def tSupI (K : PySem.W.Frag) (D : Addr) (t : TA) : TE := fun σ H Q => ∃ (a C : Addr), σ[0]? = some (some (.ref a)) ∧ H a = some (exo a C none) ∧ SupI K C D ∧ OexC K C ∧ t σ H fun vs H2 => vs.length ≤ 1000 ∧ H2 a = some (exo a C none) ∧ Q .non H2
theorem call_mw {X : Cx} {pins : List (Addr × Obj)} {σ : L2.St} {H : Hp} {s : Shared} {u a C : Addr} {us : List Value} {Q : Value → Shared → Prop} {EE : Value → Shared → Prop} (T : OexC X.K C) (I : Inv X ((u, PySem.W.kxs_mw "ValueError.__init__" a) :: pins) σ H s) (e : H a = some (exo a C none)) (hl : us.length ≤ sizeLine) (h : ∀ s', Inv X pins σ H s' → Q .none s') :
    wpAny (model X.prog X.w) X.A (call (.ref u) us) Q EE s := by
  obtain ⟨nm, q, N, bs, bm, sn, sub, ab, col, dd, k0, k1, k2, k3, k5, hC, hbm⟩ := T.cls
  obtain ⟨t1, ho⟩ := exo_at I.hok e
  have hu : s.heap.get? u = some (PySem.W.kxs_mw "ValueError.__init__" a) := ClX.pin_at I
  have I0 := ClX.unpin I
  have hC' := I.kIn _ _ hC
  obtain ⟨hp, g, d, t, os⟩ := s
  refine wpAny_call (codeAny_of_tree ?_)
  show wpAny _ X.A.in1 (callAny (.ref u) ⟨us, []⟩) _ _ _
  simp only [callAny]
  refine wpAny_bind (wpAny_load hu ?_)
  simp only [PySem.W.kxs_mw, show (Value.type "method-wrapper" == Value.type "method" || Value.type "method-wrapper" == Value.type "builtin_function_or_method" || Value.type "method-wrapper" == Value.type "method-wrapper") = true by decide, if_true]
  refine PySem.W.KFB.if_so (by decide) ?_
  refine wpAny_bind (PySem.W.check_bound_init F.excBase_ValueError.toExcCallFacts hC' ho rfl ?_)
  refine wpAny_bind (wpAny_pure (wpAny_pure ?_))
  refine ⟨plainId_quiet F.excBase_ValueError.init.plain _, codeAny_builtin F.excBase_ValueError.initEntry ?_⟩
  refine PySem.W.exc_init_tree (cls := .ref C) (t0 := t1) (dv := none) (c2 := .none) (c3 := .none) (b4 := .bool false) ho hl fun h' k hx _ => ?_
  have J := I0.write (t' := t) (x := a) (e := a) (o := exo a C none) (by rw [e]; exact True.intro) (.inl rfl) k ⟨_, hx⟩ (exo_ok hx)
  have eu : upd H a (exo a C none) = H := by
    funext b
    by_cases hb : b = a
    · rw [hb, upd_same, e]
    · rw [upd_ne hb]
  rw [eu] at J
  exact h _ J
theorem peA_superI {oc doc pm ct cl : Value} {od cld : Option Addr} {osl csl : Array (Option Value)} {ar : Arg} {p0 p1 p2 pos : Pos} {e : Expr} {es : List Expr} {t : TA} {pl : Sem Bool}
    (S : NdefX.NScope N ps ["__class__"] scope) (T : SupC P K f D slf) (lk : K.lookup f = some ⟨oc, od, .func (PySem.W.fnX nm qual params body scope [("__class__", cc)] .none .none doc pm none (.ref c) ct), osl⟩) (lc : K.lookup cc = some ⟨cl, cld, .cell (some (.ref D)), csl⟩)
    (hp : (params.posonlyargs ++ params.args).head? = some ar) (ha : ar.arg = slf) (hN : N[0]? = some slf) (hs : slf ∈ ps) (hsu : scope.names.lookup ("super" : Str) = some .globalImplicit)
    (hargs : PA (cxF CX P w K mg base N nm qual params body scope cc c f A outer s0 H0 E) (e :: es) t)
    (hst : starEach (e :: es) (cxF CX P w K mg base N nm qual params body scope cc c f A outer s0 H0 E).env = (false, eval e (cxF CX P w K mg base N nm qual params body scope cc c f A outer s0 H0 E).env) :: starEach es (cxF CX P w K mg base N nm qual params body scope cc c f A outer s0 H0 E).env := by rfl)
    (hpl : (backTo pos (starEach es (cxF CX P w K mg base N nm qual params body scope cc c f A outer s0 H0 E).env)).any (·.1) = false := by rfl)
    (he : eval (.Call (.Attribute (.Call (.Name "super" p0) [] [] p1) "__init__" p2) (e :: es) [] pos) (cxF CX P w K mg base N nm qual params body scope cc c f A outer s0 H0 E).env = (do
      let ov ← attributeBase (.Call (.Name "super" p0) [] [] p1) "__init__" (cxF CX P w K mg base N nm qual params body scope cc c f A outer s0 H0 E).env (eval (.Call (.Name "super" p0) [] [] p1) (cxF CX P w K mg base N nm qual params body scope cc c f A outer s0 H0 E).env)
      standAt p2.atName
      let (fv, first) ← holding [ov] (getMethod ov "__init__" pl)
      callWith pos fv first (backTo pos (starEach (e :: es) (cxF CX P w K mg base N nm qual params body scope cc c f A outer s0 H0 E).env)) []) := by rfl) :
    PEA (cxF CX P w K mg base N nm qual params body scope cc c f A outer s0 H0 E) (.func body (cxF CX P w K mg base N nm qual params body scope cc c f A outer s0 H0 E).env) (.Call (.Attribute (.Call (.Name "super" p0) [] [] p1) "__init__" p2) (e :: es) [] pos) (tSupI K D t) := by
  refine ⟨fun pins s σ H Q I h => ?_⟩
  obtain ⟨a, C, hσ, ea, M, O, q⟩ := h
  obtain ⟨t1, ho⟩ := exo_at I.hok ea
  have J : PySem.W.InstAt s.heap a ({ cls := .ref C, dict := none, data := .fields #[.ref t1, .none, .none, .none, .bool false, .none] } : Obj) C none := ⟨ho, rfl, rfl, trivial⟩
  refine ks_wpAt_MethodCall (pl := pl) ?_ he
  refine sup_base I S T lk lc hp ha hN hs hσ hsu (by decide +kernel) J M.sub fun h' k hso => ?_
  have I1 : Inv (cxF CX P w K mg base N nm qual params body scope cc c f A outer s0 H0 E) pins σ H { s with heap := h' } := I.kept (t' := s.toks) k
  have X1 : K.In h' := I1.kIn
  have J1 : PySem.W.InstAt h' a ({ cls := .ref C, dict := none, data := .fields #[.ref t1, .none, .none, .none, .bool false, .none] } : Obj) C none := ⟨k _ _ ho, rfl, rfl, trivial⟩
  cases hc : PySem.W.clsIn K C with
  | none =>
    have z := M.fnd
    unfold PySem.W.ks_superIn at z
    rw [hc] at z
    cases z
  | some cd =>
    have z := M.fnd
    unfold PySem.W.ks_superIn at z
    rw [hc] at z
    refine PySem.W.kxs_getMethod PySem.W.kxs_ValueError hso (PySem.W.looks_opaque X1 T.opq) (l₀ := cd.mro) (fun A' Q' E' s' k' q' => wpAny_bind ((PySem.W.looks_clsIn X1 hc) A' _ E' s' k' (wpAny_pure q'))) rfl X1 z (J1.type.andThen (PySem.W.looks_subIn X1 M.ve)) (PySem.W.ks_ne X1 J1 hc) (by decide +kernel) ?_
    have I2 : Inv (cxF CX P w K mg base N nm qual params body scope cc c f A outer s0 H0 E) ((h'.objs.size, PySem.W.kxs_mw "ValueError.__init__" a) :: pins) σ H { s with heap := h'.push (PySem.W.kxs_mw "ValueError.__init__" a), toks := s.toks + 1 } :=
      ClX.pin_new (s := { s with heap := h' }) (t' := s.toks + 1) I1 (fun _ _ z => Heap.get?_push_of_some _ z) (Nat.le_refl _) (Heap.get?_push_size h' rfl) (fun v z => nomatch z)
    refine PySem.W.kxs_callWith (i := "ValueError.__init__") (x := a) (by rw [hst]; show (false || (backTo pos (starEach es _)).any (·.1)) = false; rw [hpl]; rfl) ?_
    rw [hst]
    refine PySem.Calls.evalArgs_plain ?_
    have hr := hargs.run pos _ _ σ H _ I2 q
    rw [hst] at hr
    refine thn hr fun us s3 hh => ?_
    obtain ⟨vs, H2, I3, rv, hlen, ea3, q2⟩ := hh
    refine ⟨ClX.pin_at I3, ?_⟩
    have hz : us.length ≤ sizeLine := by rw [← rv.length, sizeLine_eq]; omega
    exact call_mw O I3 ea3 hz fun s' J' => ⟨.non, H2, J', rfl, q2⟩
end

/-! ### raise C(e, ..), C's own __init__ a positional promise -/
section
variable {X : Cx} {e : Expr} {es : List Expr} {ta : TA} {p pos : Pos}
theorem pmk_oexR {CX : CXT} {x : Str} {C fI : Addr} {k : Nat} {sp : Sp} (T : OexC X.K C) (iC : PySem.W.findIn X.K (.ref C) "__init__" = some (some (.ref fI))) (tI : PySem.W.typeIn X.K (.ref fI) = some (.type "function"))
    (F1 : FnR X.prog X.w X.K X.mg X.base CX k fI sp) (hr : Room (k + 1) X.A) (hx : Passes CX X (fun _ _ _ => False)) (hg : Gl X x) (hm : X.mg x = some (.ref C)) (ha : PA X (e :: es) ta)
    (hdb : (x == ("__debug__" : Str)) = false := by decide) (he : starEach (e :: es) X.env = (false, eval e X.env) :: starEach es X.env := by rfl) (hpl : (backTo pos (starEach es X.env)).any (·.1) = false := by rfl) :
    PMk X (.Call (.Name x p) (e :: es) [] pos) (tMkO C sp [] ta) := by
  intro pins s σ H Q I h
  obtain ⟨nm, q, N, bs, bm, sn, sub, ab, col, dd, k0, k1, k2, k3, k5, hC, hbm⟩ := T.cls
  refine wpAny_Call_Name_kw (ld_glob I hg hm ?_ hdb)
  refine PySem.W.callWith_K (h₀ := X.base) I.ok.mod.kin T.kC (thn (ha.run pos pins s σ H _ I h) fun us s1 ⟨vs, H1, I1, r1, hz, q1⟩ => ⟨I1.kIn, ?_⟩) he hpl
  show wpAny _ _ (call (.ref C) us) _ _ _
  obtain ⟨hp, g, dr, tk, os⟩ := s1
  have hsz : hp.objs.size ≤ hp.objs.size + 1 := Nat.le_succ _
  have hn : H1 (hp.objs.size + 1) = none := I1.hok.fresh hsz
  have hq := q1 (hp.objs.size + 1) hn
  have kk : ∀ b o, hp.get? b = some o → ((hp.push (PySem.W.kdv_tup us)).push (PySem.HandSPX.excO C hp.objs.size)).get? b = some o := fun b o e => Heap.get?_push_of_some _ (Heap.get?_push_of_some _ e)
  have hget : ((hp.push (PySem.W.kdv_tup us)).push (PySem.HandSPX.excO C hp.objs.size)).get? (hp.objs.size + 1) = some (PySem.HandSPX.excO C hp.objs.size) := by heap_get
  have I2 : Inv X pins σ (upd H1 (hp.objs.size + 1) (exo (hp.objs.size + 1) C none)) ⟨(hp.push (PySem.W.kdv_tup us)).push (PySem.HandSPX.excO C hp.objs.size), g, dr, tk, os⟩ :=
    I1.laid (t' := tk) (a := hp.objs.size + 1) (o := exo (hp.objs.size + 1) C none) (h' := (hp.push (PySem.W.kdv_tup us)).push (PySem.HandSPX.excO C hp.objs.size)) kk hsz (exo_ok hget)
  have r2 : Vals (V.ref (hp.objs.size + 1) :: (vs ++ [])) (Value.ref (hp.objs.size + 1) :: us) := by
    rw [List.append_nil]
    exact .cons rfl r1
  have hus : us.length ≤ sizeLine := by
    rw [← Paired.length r1, sizeLine_eq]
    omega
  refine wpAny_call (PySem.HandSPX.call_own F.excBase_ValueError (fun Y => PySem.HandSPX.refsVE_contains Y bm hbm) (I1.kIn _ _ hC) (PySem.W.looks_findIn I1.kIn iC) (fun self => PySem.W.bind_fn I1.kIn self tI) hus
    (codeAny_mono (F1 _ X.stack _ _ (Value.ref (hp.objs.size + 1) :: us) _ _ (fun _ _ _ => False) (hr.make C us []) (I2.env0.make C us []) r2 hq) fun r s' hq' => ?_))
  cases r with
  | error er => exact hx pins σ _ _ er s' I2 hq'
  | ok fl =>
    cases fl with
    | ret u =>
      obtain ⟨v, H2, os2, bare2, un2, hok2, rv, ev, d, fs, ea, ed, hd1, q2⟩ := hq'
      subst ev
      obtain ⟨h2, g2, d2, t2, os'⟩ := s'
      exact ⟨rv, mk_end (raises_own T.exC T.tyC) I1 hsz kk un2 hok2 os2 bare2 ea ed hd1 q2⟩
    | next => exact False.elim hq'
    | brk => exact False.elim hq'
    | cont => exact False.elim hq'
/-- raise C(), C without an own __init__ -/
theorem pmk_own0 {C : Addr} {bmB : List Value} {B newId initId : String} {x : Str} (F : ExcBaseFacts B newId initId bmB) (q : PySem.W.excIn X.K C bmB newId = true) (gC : X.mg x = some (.ref C))
    (kC : PySem.W.keepIn X.K (.ref C) = true) (r : Raises X (.ref C)) (hg : Gl X x) (hdb : (x == ("__debug__" : Str)) = false := by decide) :
    PMk X (.Call (.Name x p) [] [] pos) (fun σ H Q => Q (.ref C) none H) := by
  intro pins s σ H Q I h
  refine wpAny_Call_Name_kw (ld_glob I hg gC ?_ hdb)
  refine PySem.W.callWith_K0 I.kIn kC ?_
  show wpAny _ _ (call (.ref C) []) _ _ _
  obtain ⟨bm, N, nm, qn, bs, hdct, sn, sub, ab, col, dd, k0, k1, k2, k3, k5, mN, hC, hN, hni, T⟩ := exc_obj I.kIn q
  refine wpAny_call_exc_subT F T hC hN hni (fun h' e hm => ?_) (by decide)
  exact mk_of I hm r h (I.hok.gone hm.new)
end
end Lay
end
section
set_option Elab.async false
set_option linter.all false
set_option maxRecDepth 100000
set_option maxHeartbeats 4000000
/-! own layer C: classes without __init__, static methods, with -/
namespace Lay
open PySem PySem.Spec PyProof.Rows L2

section
variable {X : Cx} {CX : CXT} {k : Nat} {C p f g : Addr} {sp : Sp} {E : L2.St → XK} {x m cn : Str} {p1 p2 pos : Pos} {e : Expr} {es : List Expr} {t : TA} {mc : Value}
/-- C(), C without an own __init__ -/
def tNew (C : Addr) : TE := fun _ H Q => ∀ y dx, H y = none → H dx = none → dx ≠ y → Q (.ref y) (upd (upd H dx (.own y)) y (.ins C dx []))
theorem pe_make00 (mk : PySem.W.makesIn X.K C = true) (hi : PySem.W.findIn X.K (.ref C) "__init__" = some (some (.builtin "object.__init__"))) (hk : PySem.W.keepIn X.K (.ref C) = true) (hg : Gl X x) (hm : X.mg x = some (.ref C)) (hdb : (x == ("__debug__" : Str)) = false := by decide) :
    PE X (.Call (.Name x p1) [] [] pos) (tNew C) := by
  refine ⟨fun pins s σ H Q I h => ?_⟩
  refine wpAny_Call_Name_kw (ld_glob I hg hm ?_ hdb)
  refine PySem.W.callWith_K0 I.kIn hk ?_
  show wpAny _ _ (call (.ref C) []) _ _ _
  have hq := h (s.heap.objs.size + 1) s.heap.objs.size (I.hok.fresh (Nat.le_succ _)) (I.hok.fresh (Nat.le_refl _)) (Nat.ne_of_lt (Nat.lt_succ_self _))
  have I2 := Inv.made (C := C) I
  have Y := PySem.W.makes_of (M := model X.prog X.w) I.kIn mk
  obtain ⟨hh, gg, d, tk, os⟩ := s
  refine wpAny_call (PySem.W.make_core Y (PySem.W.looks_findIn I.kIn hi) (fun self => PySem.W.Looks.of_pure (PySem.W.oi_bind self)) (.inr ⟨rfl, rfl⟩) ?_)
  have e2 : ((hh.push PySem.W.emptyDict).push (PySem.W.instObj C hh.objs.size)).get? (hh.objs.size + 1) = some (PySem.W.instObj C hh.objs.size) := by
    have := Heap.get?_push_size (hh.push PySem.W.emptyDict) (o := PySem.W.instObj C hh.objs.size) rfl
    rwa [Heap.size_push] at this
  have t1 : PySem.W.Looks (model X.prog X.w) ((hh.push PySem.W.emptyDict).push (PySem.W.instObj C hh.objs.size)) (typeOf (.ref (hh.objs.size + 1))) (.ref C) := (PySem.W.Looks.ld e2).andThen .now
  have t2 : PySem.W.Looks (model X.prog X.w) ((hh.push PySem.W.emptyDict).push (PySem.W.instObj C hh.objs.size)) (isInstance (.ref (hh.objs.size + 1)) (.type "object")) true := t1.andThen (Y.top.keeps fun b o e => Heap.get?_push_of_some _ (Heap.get?_push_of_some _ e))
  refine codeAny_call_builtin PySem.W.oi_plain PySem.W.entry_oi (@PySem.W.check_slot (model X.prog X.w) _ _ _ "object.__init__" "object" "__init__" (.ref (hh.objs.size + 1)) [] [] _ PySem.W.oi_kind PySem.W.oi_split t2 (PySem.W.oi_args (.ref (hh.objs.size + 1))) ?_)
  rw [PySem.W.oi_run]
  exact wpAny_pure (And.intro rfl ⟨V.ref (hh.objs.size + 1), _, I2, rfl, hq⟩)
/-- C.m is a staticmethod whose def stands at g -/
structure Stat (K : PySem.W.Frag) (C : Addr) (mc : Value) (m : Str) (p g : Addr) : Prop where
  rd : PySem.W.readsIn K C mc = true
  ga : PySem.W.specialIn K (.ref C) "__getattribute__" = some (some (.builtin "type.__getattribute__"))
  at_ : PySem.W.findCls K (.ref C) mc m = some (.get (.builtin "staticmethod.__get__") (.ref p) .none (.ref C))
  rc : ∃ rest, PySem.W.recIn K p "staticmethod" = some (.ref g :: rest)
  kp : PySem.W.keepIn K (.ref g) = true
theorem pe_stat {pl : Sem Bool} (T : Stat X.K C mc m p g) (F : FnR X.prog X.w X.K X.mg X.base CX k g sp) (hr : Room k X.A) (hg : Gl X cn) (hm : X.mg cn = some (.ref C)) (hx : ∀ σ, PassesAt CX X σ (E σ)) (ha : PA X (e :: es) t) (hdb : (cn == ("__debug__" : Str)) = false := by decide)
    (hst : starEach (e :: es) X.env = (false, eval e X.env) :: starEach es X.env := by rfl) (hpl : (backTo pos (starEach es X.env)).any (·.1) = false := by rfl)
    (ht : eval (.Call (.Attribute (.Name cn p1) m p2) (e :: es) [] pos) X.env = (do
      let ov ← eval (.Name cn p1) X.env
      standAt p2.atName
      let (fv, first) ← holding [ov] (getMethod ov m pl)
      callWith pos fv first (backTo pos (starEach (e :: es) X.env)) (backToKw pos (keywordEach [] X.env))) := by rfl) :
    PE X (.Call (.Attribute (.Name cn p1) m p2) (e :: es) [] pos) (tCallS sp E t) := by
  refine ⟨fun pins s σ H Q I h => ?_⟩
  refine PySem.W.methodCall_KW (pl := pl) (ld_glob I hg hm ?_ hdb) ht
  obtain ⟨rest, hp⟩ := T.rc
  refine PySem.W.method_cls I.kIn T.ga (PySem.W.cls_bind I.kIn T.rd T.at_ (wpAny_call (PySem.W.sm_get (s := { s with toks := s.toks + 1 }) I.kIn hp (PySem.W.handed_on rfl ?_))))
  have I1 := I.tok (s.toks + 1)
  exact PySem.W.callWith_K (first := []) (h₀ := X.base) I.ok.mod.kin T.kp (thn (ha.run pos pins _ σ H _ I1 h) fun us s2 ⟨vs, H2, I2, r, q2⟩ => ⟨I2.kIn, run_RS F hr (hx σ) I2 r q2⟩) hst hpl
end

/-! ### defs that may run while an exception is handled -/
/-- a positional promise, whatever is handled; pn: objects that stand out of reach -/
def FnA (P : Program) (w : World) (K : PySem.W.Frag) (mg : Str → Option Value) (base : Heap) (CX : CXT) (k : Nat) (f : Addr) (sp : List (Addr × Obj) → Sp) : Prop :=
  ∀ (A : Around) (outer : List Env) (s : Shared) (H : Hp) (us : List Value) (vs : List V) (Q : VK) (E : XK) (pn : List (Addr × Obj)), L2H.RoomH k A → (∀ p ∈ pn, L2H.PinOk outer H s p) → Env0 P w K mg base A outer s H → Vals vs us → sp pn vs H Q E →
    codeAny (model P w) A (.call (.ref f) ⟨us, []⟩) (CR CX outer P w H s Q E) s
theorem FnA.calm {P : Program} {w : World} {K : PySem.W.Frag} {mg : Str → Option Value} {base : Heap} {CX : CXT} {k : Nat} {f : Addr} {sp : List (Addr × Obj) → Sp} (F : FnA P w K mg base CX k f sp) : FnR P w K mg base CX k f (sp []) :=
  fun A outer s H us vs Q E hr e0 r h => F A outer s H us vs Q E [] (L2H.roomH_of hr) (fun _ z => by cases z) e0 r h
abbrev cxA (CX : CXT) (P : Program) (w : World) (K : PySem.W.Frag) (mg : Str → Option Value) (base : Heap) (N : List Str) (qual : Str) (scope : Scope) (f : Addr) (cd : Value) (A : Around) (outer : List Env) (s : Shared) (H : Hp) (E : XK) (pn : List (Addr × Obj)) : Cx :=
  { cxOf CX P w K mg base N qual scope f cd A outer s H E with calm := false, pn := pn }
theorem inv_hot {CX : CXT} {P : Program} {w : World} {K : PySem.W.Frag} {mg : Str → Option Value} {base : Heap} {N : List Str} {qual : Str} {scope : Scope} {f : Addr} {cd : Value} {A : Around} {outer : List Env} {s s1 : Shared} {H : Hp} {E : XK} {σ : L2.St} {pn : List (Addr × Obj)}
    (hp : ∀ p ∈ pn, L2H.PinOk outer H s p) (hk : ∀ b o, s.heap.get? b = some o → s1.heap.get? b = some o) (fr : A.frames = some outer)
    (I : Inv (cxOf CX P w K mg base N qual scope f cd { A with handled := none } outer s H E) [] σ H s1) : Inv (cxA CX P w K mg base N qual scope f cd A outer s H E pn) [] σ H s1 := by
  refine ⟨⟨I.ok.mod, I.ok.kind, I.ok.glob, I.ok.blt, I.ok.above, I.ok.inj, I.ok.has, I.ok.cab, fun z => Bool.noConfusion z, Around.frames_deeper fr, I.ok.stk, I.ok.exf, I.ok.bs, I.ok.bsz, I.ok.noex, I.ok.exfs, I.ok.funs, I.ok.frf⟩,
    I.os, I.bare, I.base, I.loc, I.cell, I.free, I.freeC, fun p hq => ?_, I.hok, I.len⟩
  have z : p ∈ pn := by simpa using (show p ∈ pn ++ ([] : List (Addr × Obj)) from hq)
  have q := hp p z
  exact ⟨hk _ _ q.get, q.free, Nat.ne_of_lt (Heap.lt_size q.get), q.nofs, q.nocell⟩
/-- THE RULE for such a def -/
theorem fnA_of {CX : CXT} {P : Program} {w : World} {K : PySem.W.Frag} {mg : Str → Option Value} {base : Heap} {k : Nat} {f : Addr} {x qual : Str} {params : Arguments} {body : List Stmt} {scope : Scope} {fd : FuncData} {N ps : List Str} {sp : List (Addr × Obj) → Sp}
    (F : FunD K x qual params body scope [] [] f fd) (S : FnScope N ps scope) (hb : Binds K fd ps []) (len : ∀ pn vs H Q E, sp pn vs H Q E → vs.length = ps.length)
    (hbody : ∀ (cdv : Value) (A : Around) (outer : List Env) (s : Shared) (H : Hp) (vs : List V) (Q : VK) (E : XK) (pn : List (Addr × Obj)), L2H.RoomH k (A.deeper (envOfC qual scope s.heap.objs.size f cdv)) → sp pn vs H Q E →
      ∃ t, PSs (cxA CX P w K mg base N qual scope f cdv A outer s H E pn) body t ∧ t { nx := fun _ H' => Q .non H', rt := Q } (start N vs) H) : FnA P w K mg base CX (k + 1) f sp := by
  obtain ⟨oc, od, dV, kV, doc, pm, an, cdv, ct, osl, rfl, lk, hcd, _, _⟩ := F.ex
  intro A outer s H us vs Q E pn hr hp e0 r hsp
  have hl := len _ _ _ _ _ hsp
  have KX : K.In s.heap := e0.mod.kin.keeps fun b o e => (e0.bs b o e).1
  have lim : s.heap.NoLimit := e0.mod.nolimit.keeps fun b o e => (e0.bs b o e).1
  have hlu : (us ++ []).length = ps.length := by rw [List.append_nil, ← r.length]; exact hl
  have hbb := hb s us KX hlu
  rw [List.append_nil] at hbb
  have hkind : ∀ y ∈ ps.zip us, scope.names.lookup y.1 = some .local ∨ (scope.names.lookup y.1 = some .cell ∧ ((cellsFrom (s.heap.objs.size + 1) scope.names []).lookup y.1).isSome = true) := fun y hy => by
    rcases S.par y.1 (List.of_mem_zip hy).1 with q | q
    · exact .inl q
    · exact .inr ⟨q, PySem.W.cellsFrom_some _ _ _ (.inl q)⟩
  refine codeAny_call_function hr.depth (KX _ _ lk) rfl S.co S.gen rfl (PySem.W.codeRec_of KX hcd) (hbb _ _ _ _ ?_)
  refine wpAny_newFunctionEnv_cells S.kind hkind fun env he s1 y => ?_
  subst he
  refine ⟨lim.keeps y.toInCall.keep, codeAny_func ?_⟩
  obtain ⟨t, ht, hq⟩ := hbody cdv A outer s H vs Q E pn (hr.deeper _) hsp
  have e1 : Env0 P w K mg base { A with handled := none } outer s H := ⟨e0.frames, e0.mod, e0.bs, e0.bsz, e0.funs, e0.frf, e0.hok, e0.bare⟩
  have I0 : Inv (cxOf CX P w K mg base N qual scope f cdv { A with handled := none } outer s H E) [] (start N vs) H s1 := inv_start S rfl e1 hl r y
  have I : Inv (cxA CX P w K mg base N qual scope f cdv A outer s H E pn) [] (start N vs) H s1 := inv_hot hp y.toInCall.keep e0.frames I0
  refine wpAny_mono (ht.run [] s1 (start N vs) H _ I hq) (fun fl s' hs => ?_) fun e s' hs => hs
  have fin : ∀ {σ' : L2.St} {H' : Hp} {v : V} {u : Value}, Inv (cxA CX P w K mg base N qual scope f cdv A outer s H E pn) [] σ' H' s' → RelV v u → Q v H' → CE outer P w H s Q u s' :=
    fun {σ' H' v u} J rv q => ⟨v, H', J.os, J.bare, J.base, J.hok, rv, q⟩
  cases fl with
  | ret u =>
    obtain ⟨v, σ', H', J, rv, q⟩ := hs
    exact fin J rv q
  | next =>
    obtain ⟨σ', H', J, q⟩ := hs
    exact fin (v := V.non) (u := Value.none) J rfl q
  | brk =>
    obtain ⟨_, _, _, q⟩ := hs
    exact False.elim q
  | cont =>
    obtain ⟨_, _, _, q⟩ := hs
    exact False.elim q
end Lay
end
section
set_option Elab.async false
set_option linter.all false
set_option maxRecDepth 100000
set_option maxHeartbeats 4000000
/-! own layer D: with C(..) as y: body, the body may raise, __exit__ gives None -/
namespace Lay
open PySem PySem.Spec PyProof.Rows L2

/-- a context manager's class: its two methods -/
structure Mgr (K : PySem.W.Frag) (C fe fx : Addr) : Prop where
  ent : PySem.W.findIn K (.ref C) "__enter__" = some (some (.ref fe))
  entF : PySem.W.isFn K (.ref fe) = true
  ext : PySem.W.findIn K (.ref C) "__exit__" = some (some (.ref fx))
  extF : PySem.W.isFn K (.ref fx) = true
/-- what is done with an exception of the body -/
def wWith (x : Addr) (spX : Sp) (Wout : WX) : WX := fun cls d σ H => ∃ cv, RelV cv cls ∧ ∀ e tv, spX [.ref x, cv, .ref e, tv] H (fun r H' => r = .non ∧ Wout cls d σ H') E0
/-- the ends of the body: __exit__(None, None, None), then on -/
def dWith (x : Addr) (spX : Sp) (D : Ends) : Ends where
  nx := fun σ H => spX [.ref x, .non, .non, .non] H (fun _ H' => D.nx σ H') E0
  rt := fun v H => spX [.ref x, .non, .non, .non] H (fun _ H' => D.rt v H') E0
  bk := fun σ H => spX [.ref x, .non, .non, .non] H (fun _ H' => D.bk σ H') E0
  ct := fun σ H => spX [.ref x, .non, .non, .non] H (fun _ H' => D.ct σ H') E0
def tWith (C : Addr) (spE spX : Sp) (i : Nat) (te : TE) (tb : WX → TS) (Wout : WX) : TS := fun D σ H => te σ H fun y H1 => ∃ x dx fs, y = .ref x ∧ H1 x = some (.ins C dx fs) ∧ spE [.ref x] H1 (fun v H2 => tb (wWith x spX Wout) (dWith x spX D) (σ.set i (some v)) H2) E0

section
variable {prog : Program} {w : World} {M : Model} {A : Around} {E : Value → Shared → Prop} {s : Shared} {env : Env} {K : PySem.W.Frag} {x C fe fx : Addr} {ox : Obj} {od : Option Obj} {pos : Pos}
open PySem.W in
/-- the statement's skeleton: entered, the body tried, __exit__ called either way -/
theorem with_core {b : Value → Sem Unit} {bdy : Sem Flow} {Q : Flow → Shared → Prop} (X : K.In s.heap) (I : InstAt s.heap x ox C od) (G : Mgr K C fe fx)
    (h : wpAny (model prog w) A (call (.ref fe) [.ref x]) (fun v s₂ => wpAny (model prog w) A (b v >>= fun _ => bdy)
      (fun f s₄ => wpAny (model prog w) A (call (.ref fx) [.ref x, .none, .none, .none]) (fun _ s₅ => Q f s₅) E s₄)
      (fun e s₄ => wpAny (model prog w) A (noteFrame e env) (fun _ s₅ => wpAny (model prog w) A (setFlight e none) (fun _ s₆ =>
        wpAny (model prog w) A (typeOf e) (fun ty s₇ => wpAny (model prog w) A (tracebackOf e) (fun tb s₈ => wpAny (model prog w) A (withItem.marked e (.call (.ref fx) ⟨[.ref x, ty, e, tb], []⟩)) (fun r s₉ => r = .none ∧ wpAny (model prog w) A (passOn "with" e env) Q E s₉) E s₈) E s₇) E s₆) E s₅) E s₄) s₂) E s) :
    wpAny (model prog w) A (withItem false pos env (pure (.ref x)) (some b) bdy) Q E s := by
  obtain ⟨cd, hcd, ae⟩ := kw_along G.ent
  obtain ⟨cd', hcd', ax⟩ := kw_along G.ext
  cases hcd.symm.trans hcd'
  obtain ⟨hh, g, d, tt, os⟩ := s
  have L1 : Looks (model prog w) hh (specialOnItsLine (.ref x) "__enter__") (some (.ref fe), cd.mro) := kw_special X I hcd ae
  have L2 : Looks (model prog w) hh (specialOnItsLine (.ref x) "__exit__") (some (.ref fx), cd.mro) := kw_special X I hcd ax
  have L3 : Looks (model prog w) hh (bindSpecial (.ref fe) (.ref x)) (.ref fe, [.ref x]) := bind_fn X _ (beq_iff_eq.mp G.entF)
  have L4 : Looks (model prog w) hh (bindSpecial (.ref fx) (.ref x)) (.ref fx, [.ref x]) := bind_fn X _ (beq_iff_eq.mp G.extF)
  have L5 : Looks (model prog w) hh (aMethodOfAnotherBuiltinTypeStops (.ref fe) cd.mro) () := Looks.of_pure rfl
  have L6 : Looks (model prog w) hh (aMethodOfAnotherBuiltinTypeStops (.ref fx) cd.mro) () := Looks.of_pure rfl
  unfold withItem
  refine wpAny_bind (wpAny_pure ?_)
  refine wpAny_bind (wpAny_standAt ?_)
  simp only [Bool.false_eq_true, if_false]
  kw_lk
  refine wpAny_mono h (fun v s₂ h₂ => ?_) fun _ _ z => z
  kw_lk
  refine wpAny_attempt (kw_held ?_)
  show wpAny _ _ (b v >>= fun _ => bdy) _ _ _
  refine wpAny_mono h₂ (fun f s₄ h₄ => ?_) fun e s₄ h₄ => ?_
  · kw_lk
    refine wpAny_mono h₄ (fun _ s₅ h₅ => ?_) fun _ _ z => z
    kw_lk
    exact h₅
  · show wpAny _ _ (noteFrame e env >>= fun _ => _) _ _ _
    refine wpAny_bind (wpAny_mono h₄ (fun _ s₅ h₅ => ?_) fun _ _ z => z)
    refine wpAny_bind (wpAny_mono h₅ (fun _ s₆ h₆ => ?_) fun _ _ z => z)
    refine wpAny_bind (wpAny_standAt (wpAny_holding ?_))
    refine wpAny_bind (wpAny_mono h₆ (fun ty s₇ h₇ => ?_) fun _ _ z => z)
    refine wpAny_bind (wpAny_mono h₇ (fun tb s₈ h₈ => ?_) fun _ _ z => z)
    refine wpAny_bind (wpAny_mono h₈ (fun r s₉ h₉ => ?_) fun _ _ z => z)
    obtain ⟨er, h₉⟩ := h₉
    subst er
    refine wpAny_bind (wpAny_pure ?_)
    refine wpAny_bind (wpAny_pure ?_)
    rw [if_neg Bool.false_ne_true]
    exact h₉
end
section
variable {X : Cx} {y : Str} {i : Nat} {ctx : Expr} {body : List Stmt} {py pos : Pos} {te : TE} {tb : WX → TS} {Wout : WX} {C fe fx : Addr} {spE : Sp} {spX : List (Addr × Obj) → Sp} {ke kx : Nat}
/-- behind __exit__, the exception goes on -/
theorem with_on {pins : List (Addr × Obj)} {σ' : L2.St} {H' H'' : Hp} {sI s' : Shared} {h3 : Heap} {s4 : Shared} {a : Addr} {B : Heap} {cls : Value} {d : Option Addr} {Q : Flow → Shared → Prop} (hs : X.stack = X.env :: X.outer) (hf : X.env.frame = some X.env.locals) (hex : X.ex = []) (tk : Takes X Wout)
    (J : Inv X pins σ' H' sI) (nb : ∀ b o, sI.heap.get? b = some o → b ∉ frs X.stack → B.get? b = some o) (na : H' a = none) (fl3 : HandSPX.FlyingZ B (X.env :: X.outer) a (Zc cls d) h3) (J3 : Inv X pins σ' H' { s' with heap := h3 })
    (J4 : Inv X pins σ' H'' s4) (un : Un (frs X.stack) [] H' H'' h3 s4.heap) (hw : Wout cls d σ' H'') :
    wpAny (model X.prog X.w) X.A (PySem.passOn "with" (.ref a) X.env) Q X.xe s4 := by
  obtain ⟨k1, k2, k3, oe, vs, T, oT, ts, he3, hz, hd, hv1, hnT, hTe, hT, hdT, ht3⟩ := fl3
  have nT : H' T = none := (J.inGround nb).gone hnT
  have notFr : ∀ (b : Addr) (o : Obj) (fv : Array Value), h3.get? b = some o → o.data = .fields fv → b ∉ frs (X.env :: X.outer) := fun b o fv e dd hm => by
    obtain ⟨_, o', e', hnf⟩ := k3.mem hm
    have eo : o = o' := Option.some.inj (e.symm.trans e')
    rw [← eo] at hnf
    exact hnf _ dd
  have fa := notFr a oe vs he3 hd
  have fT := notFr T oT ts hT hdT
  have fa' : a ∉ frs X.stack := by rw [hs]; exact fa
  have fT' : T ∉ frs X.stack := by rw [hs]; exact fT
  have ga : s4.heap.get? a = some oe := un.keep a oe he3 na fa' (by simp)
  have gT : s4.heap.get? T = some oT := un.keep T oT hT nT fT' (by simp)
  have na4 : H'' a = none := un.free a oe he3 na (by simp)
  have nT4 : H'' T = none := un.free T oT hT nT (by simp)
  have far : ∀ b o, sI.heap.get? b = some o → b ≠ a ∧ b ≠ T := fun b o e => by
    by_cases hb : b ∈ frs X.stack
    · exact ⟨fun z => fa' (by rw [← z]; exact hb), fun z => fT' (by rw [← z]; exact hb)⟩
    · have q := nb b o e hb
      refine ⟨fun z => ?_, fun z => ?_⟩
      · rw [z, k2] at q; cases q
      · rw [z, hnT] at q; cases q
  have far0 : ∀ b o, X.s_0.heap.get? b = some o → b ≠ a ∧ b ≠ T := fun b o e => by
    obtain ⟨o', q⟩ := J.base.there b o e (by rw [hex]; simp)
    exact far b o' q
  have farP : ∀ p ∈ X.pn ++ pins, p.1 ≠ a ∧ p.1 ≠ T := fun p hp => far p.1 p.2 (J.pin p hp).1
  obtain ⟨G, g1, g2⟩ := restrict s4.heap fun b => !(decide (b = a) || decide (b = T))
  have gIn : ∀ b o, G.get? b = some o → s4.heap.get? b = some o ∧ b ≠ a ∧ b ≠ T := fun b o e => by
    cases q : (!(decide (b = a) || decide (b = T))) with
    | false => rw [g2 b q] at e; cases e
    | true =>
      rw [g1 b q] at e
      simp only [Bool.not_eq_true', Bool.or_eq_false_iff, decide_eq_false_iff_not] at q
      exact ⟨e, q.1, q.2⟩
  have gOf : ∀ b o, b ≠ a → b ≠ T → s4.heap.get? b = some o → G.get? b = some o := fun b o h1 h2 e => by
    rw [g1 b (by simp [h1, h2])]
    exact e
  have I6 : Inv X pins σ' H'' { s4 with heap := G } := J4.less (fun b o e => (gIn b o e).1) gOf ⟨oe, vs, ga, hd⟩ ⟨oT, ts, gT, hdT⟩ na4 nT4 far0 farP
  have Bno : ∀ b, (b = a ∨ b = T) → (PySem.W.hideAll G (frs X.stack)).get? b = none := fun b hb => by
    cases q : (PySem.W.hideAll G (frs X.stack)).get? b with
    | none => rfl
    | some o =>
      obtain ⟨_, n1, n2⟩ := gIn b o (PySem.W.of_hideAll _ q)
      rcases hb with z | z
      · exact absurd z n1
      · exact absurd z n2
  have fl6 : HandSPX.FlyingZ (PySem.W.hideAll G (frs X.stack)) (X.env :: X.outer) a (Zc cls d) s4.heap := by
    refine ⟨fun b o e => (gIn b o (PySem.W.of_hideAll _ e)).1, Bno a (.inl rfl), ?_, oe, vs, T, oT, ts, ga, hz, hd, hv1, Bno T (.inr rfl), hTe, gT, hdT, ht3⟩
    have ff := funFrames_none (B := PySem.W.hideAll G (frs X.stack)) J4.stack fun b hb => PySem.W.hideAll_none _ hb
    rw [← hs]
    exact ff
  unfold PySem.passOn
  refine wpAny_bind (wpAny_field ga hd hv1 ?_)
  rw [if_neg (show ¬ ((Value.ref T == Value.none) = true) from by simp)]
  have goOn : wpAny (model X.prog X.w) X.A (setFlight (.ref a) X.env.frame) (fun _ s7 => wpAny (model X.prog X.w) X.A (throw (.ref a) : Sem Flow) Q X.xe s7) X.xe s4 := by
    rw [hf]
    refine HandSPX.setFlight_upZ fl6 fun h7 hh7 up7 => wpAny_throw (tk _ _ ?_)
    refine ⟨a, PySem.W.hideAll G (frs X.stack), { s4 with heap := G }, pins, σ', H'', cls, d, rfl, I6, fun b o e hb => PySem.W.hideAll_get _ e hb, ?_, .inr (.inr (by rw [← hs] at hh7; exact hh7)), na4, rfl, J4.bare, hw⟩
    exact Heap.UpToSlots.trans (Heap.UpToSlots.of_keeps fun b o e => (gIn b o e).1) up7
  first
    | exact wpAny_bind (wpAny_pure (wpAny_bind goOn))
    | exact wpAny_bind goOn
theorem ps_with (hs : X.stack = X.env :: X.outer) (hf : X.env.frame = some X.env.locals) (hex : X.ex = []) (he : PE X ctx te) (c : Cls X.K C) (G : Mgr X.K C fe fx) (Fe : FnR X.prog X.w X.K X.mg X.base CX0 ke fe spE) (hre : Room ke X.A) (Fx : FnA X.prog X.w X.K X.mg X.base CX0 kx fx spX) (hrx : Room kx X.A)
    (hN : X.N.Nodup) (hi : X.N[i]? = some y) (hy : X.env.scope.names.lookup y = some .local) (tk : Takes X Wout)
    (hb : ∀ (W : WX) (pn : List (Addr × Obj)) (xe : Value → Shared → Prop), Takes (X.tr pn xe) W → PassesOwn (model X.prog X.w) X.A X.env xe → PSs (X.tr pn xe) body (tb W)) :
    PS X (.With [⟨ctx, some (.Name y py)⟩] body pos) (tWith C spE (spX []) i te tb Wout) := by
  refine ⟨fun pins s σ H D I h => ?_⟩
  have ok := I.ok
  have hfr : X.A.frames = some (X.env :: X.outer) := by rw [ok.frames, hs]
  refine PySem.W.kw_execN (thn (he.run pins s σ H _ I h) fun u s1 hh => ?_)
  obtain ⟨yv, H1, I1, r1, x, dx, fs, ey, ex, q⟩ := hh
  subst ey
  obtain rfl : u = Value.ref x := r1
  obtain ⟨mA, O, _, _, _, _⟩ := ins_get I1.hok ex
  obtain ⟨odj, J0, _⟩ := O.look
  unfold PySem.W.KwIn
  refine with_core I1.kIn J0 G ?_
  refine thn (run_RS (E := fun _ => E0) (us := [.ref x]) (vs := [.ref x]) Fe hre (at0 σ) I1 (.cons rfl .nil) q) fun v s2 hh => ?_
  obtain ⟨vv, H2, I2, r2, q2⟩ := hh
  have exitN : ∀ {σ3 : L2.St} {H3 : Hp} {s3 : Shared} {N : Hp → Prop} {Q : Shared → Prop}, Inv X pins σ3 H3 s3 → spX [] [.ref x, .non, .non, .non] H3 (fun _ H4 => N H4) E0 → (∀ s4 H4, Inv X pins σ3 H4 s4 → N H4 → Q s4) →
      wpAny (model X.prog X.w) X.A (call (.ref fx) [.ref x, .none, .none, .none]) (fun _ s4 => Q s4) X.xe s3 := fun {σ3 H3 s3 N Q} I3 h3 hQ => by
    refine thn (run_RS (E := fun _ => E0) (us := [.ref x, .none, .none, .none]) (vs := [.ref x, .non, .non, .non]) (Q := fun _ H4 => N H4) Fx.calm hrx (at0 σ3) I3 (.cons rfl (.cons rfl (.cons rfl (.cons rfl .nil)))) h3) fun v4 s4 hh => ?_
    obtain ⟨_, H4, I4, _, q4⟩ := hh
    exact hQ s4 H4 I4 q4
  refine wpAny_bind (wpAny_assign_Name ?_)
  refine wpAny_mono (Q := fun _ s3 => Inv X pins (σ.set i (some vv)) H2 s3) (E := fun _ _ => False) (store_ok I2 hN hi (.inl hy) r2 (fun s3 I3 => I3) (.inr hy)) (fun _ s3 I3 => ?_) (fun _ _ z => z.elim)
  refine wpAny_mono ((hb (wWith x (spX []) Wout) (X.pn ++ pins) (fun e s4 => wpAny (model X.prog X.w) X.A (noteFrame e X.env) (fun _ s5 => wpAny (model X.prog X.w) X.A (setFlight e none) (fun _ s6 =>
        wpAny (model X.prog X.w) X.A (typeOf e) (fun ty s7 => wpAny (model X.prog X.w) X.A (tracebackOf e) (fun tb' s8 => wpAny (model X.prog X.w) X.A (withItem.marked e (.call (.ref fx) ⟨[.ref x, ty, e, tb'], []⟩)) (fun r s9 => r = .none ∧ wpAny (model X.prog X.w) X.A (PySem.passOn "with" e X.env) (SP X pins D) X.xe s9) X.xe s8) X.xe s7) X.xe s6) X.xe s5) X.xe s4)
      (fun u' s' xx => ?_) PassesOwn.looking).run [] s3 (σ.set i (some vv)) H2 (dWith x (spX []) D) (I3.toTry _) q2) (fun f s4 hsp => ?_) (fun e s4 he' => he')
  · -- the exception
    obtain ⟨a, B, sI, pins', σ', H', cls, d, rfl, J', nb, up, sky, na, os, ag, cv, rcv, hw⟩ := xx
    have J : Inv X pins σ' H' sI := J'.ofTry ok
    have sky' : Sky B (X.env :: X.outer) a (Zc cls d) X.env.locals s'.heap := by rw [← hs]; exact sky
    show wpAny (model X.prog X.w) X.A (noteFrame (.ref a) X.env) _ _ _
    refine Sky.land Zc.steady hfr hf sky' fun h3 fl3 up3 => ?_
    have J3 : Inv X pins σ' H' { s' with heap := h3 } := J.landed nb fl3.1 (up.trans up3) os ag
    obtain ⟨k1, k2, k3, oe, vs, T, oT, ts, he3, hz, hd, hv1, hnT, hTe, hT, hdT, ht3⟩ := id fl3
    refine wpAny_typeOf_ref he3 ?_
    rw [hz.1]
    have tb_of : ∀ {Q : Value → Shared → Prop} {EE : Value → Shared → Prop}, (∀ tv tV, RelV tV tv → Q tv { s' with heap := h3 }) → wpAny (model X.prog X.w) X.A (tracebackOf (.ref a)) Q EE { s' with heap := h3 } := fun {Q EE} hq => by
      obtain ⟨t1, ht1⟩ : ∃ t1, ts[1]? = some t1 := by
        have l := (Array.getElem?_eq_some_iff.mp ht3).1
        exact ⟨_, Array.getElem?_eq_getElem (by omega)⟩
      unfold tracebackOf
      refine wpAny_bind (wpAny_field he3 hd hv1 ?_)
      refine wpAny_bind (wpAny_field hT hdT ht1 ?_)
      by_cases e1 : (t1 == Value.none) = true
      · rw [if_pos e1]
        exact wpAny_pure (hq .none .non rfl)
      · rw [if_neg e1]
        exact wpAny_pure (hq (.ref T) (.ref T) rfl)
    refine tb_of fun tv tV rtv => ?_
    have e0 : Env0 X.prog X.w X.K X.mg X.base (X.A.mark (some (.ref a))) X.stack { s' with heap := h3 } H' := by
      have z := J3.env0
      exact ⟨z.frames, z.mod, z.bs, z.bsz, z.funs, z.frf, z.hok, z.bare⟩
    have run := Fx (X.A.mark (some (.ref a))) X.stack { s' with heap := h3 } H' [.ref x, cls, .ref a, tv] [.ref x, cv, .ref a, tV] _ E0 [] ⟨hrx.dp, hrx.un⟩ (fun _ z => by cases z) e0 (.cons rfl (.cons rcv (.cons rfl (.cons rtv .nil)))) (hw a tV)
    unfold withItem.marked
    refine wpAny_bind (wpAny_run (codeAny_mono run fun rr s4 hr => ?_))
    cases rr with
    | error e => exact False.elim hr
    | ok fl =>
      cases fl with
      | ret rv =>
        obtain ⟨v, H'', os4, bare4, un4, hok4, rv4, ev, hW⟩ := hr
        subst ev
        have er : rv = Value.none := rv4
        subst er
        refine wpAny_pure ⟨rfl, ?_⟩
        have J4 : Inv X pins σ' H'' s4 := J3.call' (ch := []) os4 un4 hok4 bare4 (fun b z => absurd z (by simp))
        exact with_on hs hf hex tk J nb na fl3 J3 J4 un4 hW
      | next => exact False.elim hr
      | brk => exact False.elim hr
      | cont => exact False.elim hr
  · -- the plain end
    cases f with
    | next =>
      obtain ⟨σ', H', J', q4⟩ := hsp
      exact exitN (J'.ofTry ok) q4 fun s5 H5 J5 q5 => ⟨σ', H5, J5, q5⟩
    | brk =>
      obtain ⟨σ', H', J', q4⟩ := hsp
      exact exitN (J'.ofTry ok) q4 fun s5 H5 J5 q5 => ⟨σ', H5, J5, q5⟩
    | cont =>
      obtain ⟨σ', H', J', q4⟩ := hsp
      exact exitN (J'.ofTry ok) q4 fun s5 H5 J5 q5 => ⟨σ', H5, J5, q5⟩
    | ret u =>
      obtain ⟨v, σ', H', J', r, q4⟩ := hsp
      exact exitN (J'.ofTry ok) q4 fun s5 H5 J5 q5 => ⟨v, σ', H5, J5, r, q5⟩
end
end Lay
end
section
set_option Elab.async false
set_option linter.all false
set_option maxRecDepth 100000
set_option maxHeartbeats 4000000
/-! own layer E: an exception as an argument of a def called in an except suite -/
namespace Lay
open PySem PySem.Spec PyProof.Rows L2

/-- what isinstance and a field's read lean on, of an own exception class -/
structure ErrC (K : PySem.W.Frag) (C : Addr) : Prop where
  cl : (PySem.W.clsIn K C).isSome = true
  ga : PySem.W.findIn K (.ref C) "__getattribute__" = some (some (.builtin "BaseException.__getattribute__"))
  gt : PySem.W.findIn K (.ref C) "__getattr__" = some none
  sub : PySem.W.subIn K (.ref C) (.type "BaseException") = some true
  hd : PySem.W.hasDictIn K C = true
  ha : PySem.W.findIn K (.ref C) "__class__" = some (some (.builtin "object.__class__"))
  hn : PySem.W.specialIn K (.builtin "object.__class__") "__get__" = some (some (.builtin "getset_descriptor.__get__"))
  tk : PySem.W.takesIn K (.builtin "object.__class__") = some true
  mr : PySem.W.mroIn K C (.type "object") = some true
/-- an exception's own dict, if it has one -/
def XDict (d : Option Addr) (fs : List (Str × V)) (H : Hp) : Prop := (d = none ∧ fs = []) ∨ ∃ dd, d = some dd ∧ H dd = some (.xd fs)
section
variable {X : Cx} {a C : Addr} {oe : Obj} {d : Option Addr} {fs : List (Str × V)}
theorem exc_inst {pins : List (Addr × Obj)} {s : Shared} {σ : L2.St} {H : Hp} (I : Inv X pins σ H s) (hp : (a, oe) ∈ X.pn) (hz : Zc (.ref C) d oe) (hf : ∃ vs, oe.data = .fields vs) (hx : XDict d fs H) : ∃ od, PySem.W.InstAt s.heap a oe C od ∧ (∀ o, od = some o → ∀ n, ∃ r, PySem.W.lookIn n o = some r ∧ RelO (fs.lookup n) r) ∧ (od = none → fs = []) := by
  obtain ⟨hget, _⟩ := I.pin (a, oe) (List.mem_append_left _ hp)
  obtain ⟨vs, hv⟩ := hf
  rcases hx with ⟨e1, e2⟩ | ⟨dd, e1, e2⟩
  · refine ⟨none, ⟨hget, hz.1, by unfold PySem.W.notCls; rw [hv], by rw [hz.2, e1]; exact True.intro⟩, ⟨fun o z => (by cases z), fun _ => e2⟩⟩
  · have hx : ObjOk X.prog X.w H s.heap dd (.xd fs) := I.hok dd _ e2
    obtain ⟨mA, hns, hr⟩ := hx
    obtain ⟨od, ho, hl⟩ := lookIn_ns hns
    refine ⟨some od, ⟨hget, hz.1, by unfold PySem.W.notCls; rw [hv], by rw [hz.2, e1]; exact ho⟩, ⟨fun o z n => ?_, fun z => (by cases z)⟩⟩
    cases z
    exact ⟨mA n, hl n, hr n⟩
/-- isinstance(e, c), e the exception -/
def rIsX (K : PySem.W.Frag) (a C : Addr) (d : Option Addr) (fs : List (Str × V)) : List V → Hp → VK → Prop := fun xs H Q => ∃ (c : V) (cv : Value) (b : Bool), xs = [.ref a, c] ∧ (∀ u, RelV c u → u = cv) ∧ PySem.W.kitOne K (.ref C) cv = some b ∧ XDict d fs H ∧ Q (.bl b) H
theorem call_isX (T : ErrC X.K C) (hp : (a, oe) ∈ X.pn) (hz : Zc (.ref C) d oe) (hf : ∃ vs, oe.data = .fields vs) : CallR X (.builtin "isinstance") (rIsX X.K a C d fs) := by
  intro pins s σ H xs us Q I r h
  obtain ⟨c, cv, b, rfl, hcv, e, hx, q⟩ := h
  cases r with
  | cons rx rr =>
    cases rr with
    | cons rt rr =>
      cases rr
      cases rx
      have ec := hcv _ rt
      subst ec
      obtain ⟨od, J, _, _⟩ := exc_inst I hp hz hf hx
      exact PySem.W.kia_one (PySem.W.kitx_exc (ox := oe) (od := od) T.cl T.ga T.gt T.sub T.ha T.hn T.tk T.mr) I.kIn J e (fun z => nomatch z) fun tk => ⟨.bl b, H, I.kept (t' := tk) fun _ _ z => z, rfl, q⟩
/-- e.f, e the exception -/
def tFldX (a : Addr) (d : Option Addr) (fs : List (Str × V)) (f : Str) (te : TE) : TE := fun σ H Q => te σ H fun x H1 => x = .ref a ∧ XDict d fs H1 ∧ ∃ v, fs.lookup f = some v ∧ Q v H1
theorem pe_fldX {e : Expr} {te : TE} {pos : Pos} {n : Str} (T : ErrC X.K C) (hno : PySem.W.findIn X.K (.ref C) n = some none) (hp : (a, oe) ∈ X.pn) (hz : Zc (.ref C) d oe) (hf : ∃ vs, oe.data = .fields vs) (he : PE X e te) (hb : attributeBase e n X.env (eval e X.env) = eval e X.env := by rfl) :
    PE X (.Attribute e n pos) (tFldX a d fs n te) := by
  refine ⟨fun pins s σ H Q I h => ?_⟩
  refine attr_of hb (thn (he.run pins s σ H _ I h) fun u s1 hh => ?_)
  obtain ⟨x, H1, I1, rx, ex, hx, v, l, q⟩ := hh
  subst ex
  obtain rfl : u = Value.ref a := rx
  obtain ⟨od, J, hl, hnn⟩ := exc_inst I1 hp hz hf hx
  cases od with
  | none =>
    rw [hnn rfl] at l
    cases l
  | some o =>
    obtain ⟨r, h1, h2⟩ := hl o rfl n
    rw [l] at h2
    obtain ⟨u, hu, ru⟩ := RelO.some_of h2
    exact HandSPX.exc_get I1.kIn J T.ga T.gt T.sub (PySem.W.findObj_own T.hd hno rfl (by rw [h1, hu])) (handed_of ru) ⟨v, H1, I1.tok _, ru, q⟩
end
/-- f(e), e the exception that the suite holds -/
def tCallX (a : Addr) (cls : Value) (d : Option Addr) (sp : List (Addr × Obj) → Sp) (t : TA) : TE := fun σ H Q => t σ H fun vs H1 => ∀ oe, Zc cls d oe → (∃ fv, oe.data = .fields fv) → sp [(a, oe)] vs H1 Q E0
theorem pe_callX {X : Cx} {a : Addr} {oe : Obj} {cls : Value} {d : Option Addr} {pn : List (Addr × Obj)} {k : Nat} {f : Addr} {sp : List (Addr × Obj) → Sp} {x : Str} {p pos : Pos} {e : Expr} {es : List Expr} {t : TA} (hz : Zc cls d oe) (hf : ∃ vs, oe.data = .fields vs)
    (F : FnA X.prog X.w X.K X.mg X.base CX0 k f sp) (hr : L2H.RoomH k X.A) (hg : Gl X x) (hm : X.mg x = some (.ref f)) (hk : PySem.W.keepIn X.K (.ref f) = true) (ha : PA (X.suite a ((a, oe) :: pn)) (e :: es) t)
    (hdb : (x == ("__debug__" : Str)) = false := by decide) (he : starEach (e :: es) X.env = (false, eval e X.env) :: starEach es X.env := by rfl) (hpl : (backTo pos (starEach es X.env)).any (·.1) = false := by rfl) :
    PE (X.suite a ((a, oe) :: pn)) (.Call (.Name x p) (e :: es) [] pos) (tCallX a cls d sp t) := by
  refine ⟨fun pins s σ H Q I h => ?_⟩
  refine wpAny_Call_Name_kw (ld_glob I hg hm ?_ hdb)
  refine PySem.W.callWith_K (h₀ := X.base) I.ok.mod.kin hk (thn (ha.run pos pins s σ H _ I h) fun us s1 ⟨vs, H1, I1, r, q⟩ => ⟨I1.kIn, ?_⟩) he hpl
  have P1 := I1.pin (a, oe) (List.mem_append_left _ List.mem_cons_self)
  have hpin : L2H.PinOk (X.suite a ((a, oe) :: pn)).stack H1 s1 (a, oe) := ⟨P1.1, P1.2.1, fun hm => (List.mem_cons.mp (I1.stkSub a hm)).elim P1.2.2.1 P1.2.2.2.1, P1.2.2.2.2⟩
  refine wpAny_call (codeAny_mono (F (X.suite a ((a, oe) :: pn)).A (X.suite a ((a, oe) :: pn)).stack s1 H1 us vs Q E0 [(a, oe)] ⟨hr.dp, hr.un⟩ (fun z hz => by rw [List.mem_singleton.mp hz]; exact hpin) I1.env0 r (q oe hz hf)) fun rr s' hq => ?_)
  cases rr with
  | error e => exact False.elim hq
  | ok fl =>
    cases fl with
    | ret u => exact I1.after hq
    | next => exact False.elim hq
    | brk => exact False.elim hq
    | cont => exact False.elim hq
end Lay
end
section
set_option Elab.async false
set_option linter.all false
set_option autoImplicit false
set_option maxRecDepth 100000
set_option maxHeartbeats 4000000
/-! own layer F: readings over plain data -/
namespace Lay
open PySem PySem.Spec PyProof.Rows L2

/-- plain data; lk: a Links object that is only read; m: an address, nothing said of it -/
inductive DV where
  | n
  | b (b : Bool)
  | i (i : Int)
  | s (s : Str)
  | l (ds : List DV)
  | t (ds : List DV)
  | lk (n : Int) (R L : Int → Int) (O : Int → Bool)
  | m (a : Addr)
  | sc (xs : List Int)
  | o (C : Str)
  | ob (C : Str) (fs : List (Str × DV))
  | dc (fs : List (Str × DV))
  | gh (d : DV) (w : V) (e : DV)
/-- f 0, .., f (m - 1) -/
def tab {α : Type} (m : Int) (f : Int → α) : List α := (List.range m.toNat).map fun (k : Nat) => f (k : Int)
def LkAt (K : PySem.W.Frag) (G : Hp) (a : Addr) (n : Int) (R L : Int → Int) (O : Int → Bool) : Prop :=
  ∃ dx l r f, G a = some (.ins (He.ga K "Links") dx [("size", .int n), ("_lefts", .ref l), ("_rights", .ref r), ("_flags", .ref f)]) ∧
    G l = some (.lst ((tab (n + 2) L).map V.int)) ∧ G r = some (.lst ((tab (n + 2) R).map V.int)) ∧ G f = some (.lst ((tab (n + 2) O).map V.bl))
inductive Rep (K : PySem.W.Frag) (G : Hp) : V → DV → Prop
  | n : Rep K G .non .n
  | b (b : Bool) : Rep K G (.bl b) (.b b)
  | i (i : Int) : Rep K G (.int i) (.i i)
  | s (s : Str) : Rep K G (.str s) (.s s)
  | m (a : Addr) : Rep K G (.ref a) (.m a)
  | l {a : Addr} {vs : List V} {ds : List DV} : G a = some (.lst vs) → vs.length = ds.length → (∀ (k : Nat) (v : V) (d : DV), vs[k]? = some v → ds[k]? = some d → Rep K G v d) → Rep K G (.ref a) (.l ds)
  | t {a : Addr} {vs : List V} {ds : List DV} : SqT K G a vs → vs.length = ds.length → (∀ (k : Nat) (v : V) (d : DV), vs[k]? = some v → ds[k]? = some d → Rep K G v d) → Rep K G (.ref a) (.t ds)
  | lk {a : Addr} {n : Int} {R L : Int → Int} {O : Int → Bool} : LkAt K G a n R L O → Rep K G (.ref a) (.lk n R L O)
  | sc {a : Addr} {xs : List Int} : SqL K G a (xs.map V.int) → Rep K G (.ref a) (.sc xs)
  | o {a dx : Addr} {C : Str} : G a = some (.ins (He.ga K C) dx []) → Rep K G (.ref a) (.o C)
  | ob {a dx : Addr} {C : Str} {vs : List (Str × V)} {fs : List (Str × DV)} (val : Str → V) : G a = some (.ins (He.ga K C) dx vs) → (∀ f d, fs.lookup f = some d → vs.lookup f = some (val f)) → (∀ f d, fs.lookup f = some d → Rep K G (val f) d) → Rep K G (.ref a) (.ob C fs)
  | dc {a : Addr} {vs : List (Key × V)} {fs : List (Str × DV)} (val : Str → V) : G a = some (.dK vs) → (∀ f d, fs.lookup f = some d → valV vs (.inr f) = some (val f)) → (∀ f d, fs.lookup f = some d → Rep K G (val f) d) → Rep K G (.ref a) (.dc fs)
  | gh {v w : V} {d e : DV} : Rep K G v d → Rep K G w e → Rep K G v (.gh d w e)
/-- a flat value as data -/
def up : V → DV
  | .non => .n
  | .bl b => .b b
  | .int i => .i i
  | .str s => .s s
  | .ref a => .m a
  | _ => .n
def flat0 : V → Prop
  | .byt _ => False
  | .flt _ => False
  | .ty _ => False
  | _ => True
section
variable {K : PySem.W.Frag} {G G' G2 F F' F1 F2 H H' : Hp} {v x y : V} {d a b : DV} {vs : List V} {ds : List DV}
theorem Rep.up (h : flat0 v) : Rep K G v (up v) := by
  cases v with
  | non => exact .n
  | bl b => exact .b b
  | int b => exact .i b
  | str b => exact .s b
  | ref b => exact .m b
  | _ => exact h.elim
theorem sql_same {p : Addr} (e : Same G G') (h : SqL K G p vs) : SqL K G' p vs := by
  rcases h with h | h
  · refine .inl ?_
    unfold Rd at h ⊢
    rcases h with h | ⟨o, h⟩
    · exact .inl (e _ _ h)
    · exact .inr ⟨o, e _ _ h⟩
  · exact .inr h
theorem sqt_same {p : Addr} (e : Same G G') (h : SqT K G p vs) : SqT K G' p vs := by
  rcases h with h | h
  · refine .inl ?_
    unfold Rd at h ⊢
    rcases h with h | ⟨o, h⟩
    · exact .inl (e _ _ h)
    · exact .inr ⟨o, e _ _ h⟩
  · exact .inr h
theorem Rep.same (e : Same G G') (h : Rep K G v d) : Rep K G' v d := by
  induction h with
  | n => exact .n
  | b b => exact .b b
  | i b => exact .i b
  | s b => exact .s b
  | m b => exact .m b
  | l h1 h2 h3 ih => exact .l (e _ _ h1) h2 ih
  | t h1 h2 h3 ih => exact .t (sqt_same e h1) h2 ih
  | lk h =>
    obtain ⟨dx, l, r, f, h1, h2, h3, h4⟩ := h
    exact .lk ⟨dx, l, r, f, e _ _ h1, e _ _ h2, e _ _ h3, e _ _ h4⟩
  | sc h => exact .sc (sql_same e h)
  | o h => exact .o (e _ _ h)
  | ob val h1 h2 h3 ih => exact .ob val (e _ _ h1) h2 ih
  | gh h1 h2 i1 i2 => exact .gh i1 i2
  | dc val h1 h2 h3 ih => exact .dc val (e _ _ h1) h2 ih
/-- values and data, one by one -/
def RepL (K : PySem.W.Frag) (G : Hp) (vs : List V) (ds : List DV) : Prop := vs.length = ds.length ∧ ∀ (k : Nat) (v : V) (d : DV), vs[k]? = some v → ds[k]? = some d → Rep K G v d
theorem RepL.same (e : Same G G') (h : RepL K G vs ds) : RepL K G' vs ds := ⟨h.1, fun k v d h1 h2 => (h.2 k v d h1 h2).same e⟩
theorem RepL.nil : RepL K G [] [] := ⟨rfl, fun k v d h => by simp at h⟩
theorem RepL.cons (h : Rep K G v d) (t : RepL K G vs ds) : RepL K G (v :: vs) (d :: ds) := ⟨by simp [t.1], fun k v' d' h1 h2 => by
  cases k with
  | zero => simp at h1 h2; subst h1 h2; exact h
  | succ k => exact t.2 k v' d' (by simpa using h1) (by simpa using h2)⟩
theorem Rep.consL (h : Rep K G v d) (t : RepL K G vs ds) : RepL K G (v :: vs) (d :: ds) := .cons h t
theorem RepL.uncons (h : RepL K G vs (d :: ds)) : ∃ v ws, vs = v :: ws ∧ Rep K G v d ∧ RepL K G ws ds := by
  cases vs with
  | nil => cases h.1
  | cons v ws => exact ⟨v, ws, rfl, h.2 0 v d rfl rfl, ⟨by simpa using h.1, fun k v' d' h1 h2 => h.2 (k + 1) v' d' (by simpa using h1) (by simpa using h2)⟩⟩
theorem RepL.unnil (h : RepL K G vs []) : vs = [] := by cases vs with
  | nil => rfl
  | cons v ws => cases h.1
theorem RepL.append {ws : List V} {es : List DV} (h : RepL K G vs ds) (t : RepL K G ws es) : RepL K G (vs ++ ws) (ds ++ es) := ⟨by simp [h.1, t.1], fun k v d h1 h2 => by
  by_cases hk : k < vs.length
  · rw [List.getElem?_append_left hk] at h1
    rw [List.getElem?_append_left (by rw [← h.1]; exact hk)] at h2
    exact h.2 k v d h1 h2
  · rw [List.getElem?_append_right (by omega)] at h1
    rw [List.getElem?_append_right (by rw [← h.1]; omega), ← h.1] at h2
    exact t.2 _ v d h1 h2⟩
theorem RepL.flat (h : ∀ v ∈ vs, flat0 v) : RepL K G vs (vs.map Lay.up) := ⟨by simp, fun k v d h1 h2 => by
  rw [List.getElem?_map, h1] at h2
  cases h2
  exact Rep.up (h v (List.mem_of_getElem? h1))⟩
theorem RepL.ints {xs : List Int} : RepL K G (xs.map V.int) (xs.map DV.i) := by
  have h := RepL.flat (K := K) (G := G) (vs := xs.map V.int) fun v hv => by
    obtain ⟨i, _, rfl⟩ := List.mem_map.mp hv
    exact True.intro
  rw [List.map_map] at h
  exact h
theorem RepL.bools {xs : List Bool} : RepL K G (xs.map V.bl) (xs.map DV.b) := by
  have h := RepL.flat (K := K) (G := G) (vs := xs.map V.bl) fun v hv => by
    obtain ⟨i, _, rfl⟩ := List.mem_map.mp hv
    exact True.intro
  rw [List.map_map] at h
  exact h
theorem RepL.get (h : RepL K G vs ds) {k : Nat} (e : ds[k]? = some d) : ∃ v, vs[k]? = some v ∧ Rep K G v d := by
  have hk : k < ds.length := (List.getElem?_eq_some_iff.mp e).1
  have hv : k < vs.length := by rw [h.1]; exact hk
  exact ⟨vs[k], List.getElem?_eq_getElem hv, h.2 k _ d (List.getElem?_eq_getElem hv) e⟩
theorem RepL.atI (h : RepL K G vs ds) {k : Int} (e : atI ds k = some d) : ∃ v, atI vs k = some v ∧ Rep K G v d := by
  unfold L2.atI at e ⊢
  rw [h.1]
  cases z : ixN ds.length k with
  | none => rw [z] at e; cases e
  | some j =>
    rw [z] at e
    exact h.get e
theorem RepL.take (h : RepL K G vs ds) (k : Nat) : RepL K G (vs.take k) (ds.take k) := ⟨by simp [h.1], fun j v d h1 h2 => by
  rw [List.getElem?_take] at h1 h2
  split at h1
  · rename_i hj
    rw [if_pos hj] at h2
    exact h.2 j v d h1 h2
  · cases h1⟩
theorem RepL.drop (h : RepL K G vs ds) (k : Nat) : RepL K G (vs.drop k) (ds.drop k) := ⟨by simp [h.1], fun j v d h1 h2 => by
  rw [List.getElem?_drop] at h1 h2
  exact h.2 _ v d h1 h2⟩

/-! ### the heap in two: G stays and grows, F changes -/
structure Gr (G G' F' : Hp) : Prop where
  sm : Same G G'
  dj : Disj G' F'
  gG : Good G'
  gF : Good F'
def Sg (K : PySem.W.Frag) (G : Hp) (σ : L2.St) (ss : List (Option DV)) : Prop := σ.length = ss.length ∧ ∀ (i : Nat) (d : DV), ss[i]? = some (some d) → ∃ v, σ[i]? = some (some v) ∧ Rep K G v d
theorem Sg.same {σ : L2.St} {ss : List (Option DV)} (e : Same G G') (h : Sg K G σ ss) : Sg K G' σ ss := ⟨h.1, fun i d hi => by
  obtain ⟨v, h1, h2⟩ := h.2 i d hi
  exact ⟨v, h1, h2.same e⟩⟩
theorem Sg.set {σ : L2.St} {ss : List (Option DV)} {j : Nat} (h : Sg K G σ ss) (r : Rep K G v d) : Sg K G (σ.set j (some v)) (ss.set j (some d)) := ⟨by simp [h.1], fun i d' hi => by
  by_cases hj : j = i
  · subst hj
    rw [List.getElem?_set] at hi
    simp only [if_true] at hi
    split at hi
    · rename_i hl
      cases hi
      exact ⟨v, by rw [List.getElem?_set]; simp [h.1, hl], r⟩
    · cases hi
  · rw [List.getElem?_set_ne hj] at hi
    obtain ⟨v', h1, h2⟩ := h.2 i d' hi
    exact ⟨v', by rw [List.getElem?_set_ne hj]; exact h1, h2⟩⟩
theorem Sg.unset {σ : L2.St} {ss : List (Option DV)} {j : Nat} (h : Sg K G σ ss) : Sg K G (σ.set j none) (ss.set j none) := ⟨by simp [h.1], fun i d' hi => by
  by_cases hj : j = i
  · subst hj
    rw [List.getElem?_set] at hi
    simp only [if_true] at hi
    split at hi
    · cases hi
    · cases hi
  · rw [List.getElem?_set_ne hj] at hi
    obtain ⟨v', h1, h2⟩ := h.2 i d' hi
    exact ⟨v', by rw [List.getElem?_set_ne hj]; exact h1, h2⟩⟩
/-- what is known is forgotten -/
theorem Sg.less {σ : L2.St} {ss ss' : List (Option DV)} (h : Sg K G σ ss) (hl : ss'.length = ss.length) (hi : ∀ (i : Nat) (d : DV), ss'[i]? = some (some d) → ss[i]? = some (some d)) : Sg K G σ ss' := ⟨by rw [h.1, hl], fun i d q => h.2 i d (hi i d q)⟩
theorem Gr.refl (d : Disj G F) (g : Good G) (f : Good F) : Gr G G F := ⟨Same.refl G, d, g, f⟩
theorem Gr.trans (a : Gr G G' F') (b : Gr G' G2 F2) : Gr G G2 F2 := ⟨a.sm.trans b.sm, b.dj, b.gG, b.gF⟩
/-- a new object in G -/
theorem Gr.new {p : Addr} {o : HO} (d : Disj G F) (g : Good G) (f : Good F) (hp : joi G F p = none) (ho : simp1 o = true := by rfl) : Gr G (upd G p o) F := by
  obtain ⟨h1, h2⟩ := joi_none hp
  refine ⟨(Ext.new h1 ho).1, fun b => ?_, g.new h1 ho, f⟩
  by_cases e : b = p
  · subst e; exact .inr h2
  · rw [upd_ne e]; exact d b
theorem joi_new {p : Addr} {o : HO} : upd (joi G F) p o = joi (upd G p o) F := by
  funext b
  by_cases e : b = p
  · subst e; rw [upd_same]; exact (joi_l upd_same).symm
  · rw [upd_ne e]
    unfold joi
    rw [upd_ne e]
/-- a change in F -/
theorem joi_put {p : Addr} {o : HO} (hp : G p = none) : upd (joi G F) p o = joi G (upd F p o) := by
  funext b
  by_cases e : b = p
  · subst e; rw [upd_same, joi_r hp, upd_same]
  · rw [upd_ne e]
    unfold joi
    rw [upd_ne e]
theorem Gr.put {p : Addr} {o u : HO} (d : Disj G F) (g : Good G) (f : Good F) (hp : F p = some u) (hu : simp1 u = true := by rfl) (ho : simp1 o = true := by rfl) : Gr G G (upd F p o) := by
  refine ⟨Same.refl G, fun b => ?_, g, f.put hp hu ho⟩
  by_cases e : b = p
  · subst e
    exact .inl ((d b).resolve_right fun z => by rw [hp] at z; cases z)
  · rw [upd_ne e]; exact d b
theorem Gr.newF {p : Addr} {o : HO} (d : Disj G F) (g : Good G) (f : Good F) (hp : joi G F p = none) (ho : simp1 o = true := by rfl) : Gr G G (upd F p o) := by
  obtain ⟨h1, h2⟩ := joi_none hp
  refine ⟨Same.refl G, fun b => ?_, g, f.new h2 ho⟩
  by_cases e : b = p
  · subst e; exact .inl h1
  · rw [upd_ne e]; exact d b
/-- frozen: an object of F goes over to G -/
theorem Gr.ice {p : Addr} {o : HO} (d : Disj G (upd F p o)) (g : Good G) (f : Good F) (hp : F p = none) (ho : simp1 o = true := by rfl) : Gr G (upd G p o) F := by
  have h1 : G p = none := (d p).resolve_right fun z => by rw [upd_same] at z; cases z
  refine ⟨(Ext.new h1 ho).1, fun b => ?_, g.new h1 ho, f⟩
  by_cases e : b = p
  · subst e; exact .inr hp
  · rw [upd_ne e]
    rcases d b with z | z
    · exact .inl z
    · rw [upd_ne e] at z; exact .inr z
theorem joi_ice {p : Addr} {o : HO} (hp : G p = none) : joi G (upd F p o) = joi (upd G p o) F := by rw [← joi_put hp, joi_new]
end

structure Okk (K : PySem.W.Frag) (G F : Hp) (σ : L2.St) (ss : List (Option DV)) : Prop where
  sg : Sg K G σ ss
  dj : Disj G F
  gG : Good G
  gF : Good F
theorem Okk.gr {K : PySem.W.Frag} {G G' F F' : Hp} {σ : L2.St} {ss : List (Option DV)} (o : Okk K G F σ ss) (g : Gr G G' F') : Okk K G' F' σ ss := ⟨o.sg.same g.sm, g.dj, g.gG, g.gF⟩
theorem Okk.refl {K : PySem.W.Frag} {G F : Hp} {σ : L2.St} {ss : List (Option DV)} (o : Okk K G F σ ss) : Gr G G F := .refl o.dj o.gG o.gF
/-- where it goes on with any d, F' of P -/
def Goes (K : PySem.W.Frag) (G : Hp) (P : DV → Hp → Prop) (Q : VK) : Prop := ∀ v d G' F', Gr G G' F' → Rep K G' v d → P d F' → Q v (joi G' F')
def EvF (K : PySem.W.Frag) (te : TE) (ss : List (Option DV)) (F : Hp) (P : DV → Hp → Prop) : Prop := ∀ σ G, Okk K G F σ ss → ∀ Q : VK, Goes K G P Q → te σ (joi G F) Q
def EvD (K : PySem.W.Frag) (te : TE) (ss : List (Option DV)) (d : DV) : Prop := ∀ F, EvF K te ss F fun d' F' => d' = d ∧ F' = F
def EvT (K : PySem.W.Frag) (tt : TT) (ss : List (Option DV)) (F : Hp) (P : Bool → Hp → Prop) : Prop := ∀ σ G, Okk K G F σ ss → ∀ Q : Bool → Hp → Prop, (∀ c G' F', Gr G G' F' → P c F' → Q c (joi G' F')) → tt σ (joi G F) Q
def EvB (K : PySem.W.Frag) (tt : TT) (ss : List (Option DV)) (c : Bool) : Prop := ∀ F, EvT K tt ss F fun c' F' => c' = c ∧ F' = F
def EvA (K : PySem.W.Frag) (ta : TA) (ss : List (Option DV)) (F : Hp) (P : List DV → Hp → Prop) : Prop := ∀ σ G, Okk K G F σ ss → ∀ Q : List V → Hp → Prop, (∀ vs ds G' F', Gr G G' F' → RepL K G' vs ds → P ds F' → Q vs (joi G' F')) → ta σ (joi G F) Q
def EvAs (K : PySem.W.Frag) (ta : TA) (ss : List (Option DV)) (ds : List DV) : Prop := ∀ F, EvA K ta ss F fun ds' F' => ds' = ds ∧ F' = F
/-- a statement, a block: N behind it, R where it returns -/
def RnF (K : PySem.W.Frag) (ts : TS) (ss : List (Option DV)) (F : Hp) (N : List (Option DV) → Hp → Prop) (R : DV → Hp → Prop) : Prop :=
  ∀ σ G, Okk K G F σ ss → ∀ D : Ends, (∀ σ' ss' G' F', Gr G G' F' → Sg K G' σ' ss' → N ss' F' → D.nx σ' (joi G' F')) → Goes K G R D.rt → ts D σ (joi G F)
section
variable {K : PySem.W.Frag} {te ta tb : TE} {tt tu : TT} {ts tr : TS} {tas : TA} {ss : List (Option DV)} {F : Hp} {P P' : DV → Hp → Prop} {PB : Bool → Hp → Prop} {PA : List DV → Hp → Prop} {a b d : DV} {N : List (Option DV) → Hp → Prop} {R : DV → Hp → Prop} {c c1 c2 : Bool} {ds : List DV}
theorem Goes.gr {G G' F' : Hp} {Q : VK} (h : Goes K G P Q) (g : Gr G G' F') : Goes K G' P Q := fun v d G2 F2 g2 r p => h v d G2 F2 (g.trans g2) r p
theorem EvF.mono (h : EvF K te ss F P) (hp : ∀ d F', P d F' → P' d F') : EvF K te ss F P' := fun σ G o Q q => h σ G o Q fun v d G' F' g r p => q v d G' F' g r (hp d F' p)
theorem EvD.evf (h : EvD K te ss d) (p : P d F) : EvF K te ss F P := fun σ G o Q q => h F σ G o Q fun v d' G' F' g r e => by
  obtain ⟨e1, e2⟩ := e
  subst e1 e2
  exact q v _ G' _ g r p
theorem EvB.evt (h : EvB K tt ss c) (p : PB c F) : EvT K tt ss F PB := fun σ G o Q q => h F σ G o Q fun c' G' F' g e => by
  obtain ⟨e1, e2⟩ := e
  subst e1 e2
  exact q _ G' _ g p
theorem EvAs.eva (h : EvAs K tas ss ds) (p : PA ds F) : EvA K tas ss F PA := fun σ G o Q q => h F σ G o Q fun vs ds' G' F' g r e => by
  obtain ⟨e1, e2⟩ := e
  subst e1 e2
  exact q vs _ G' _ g r p
/-- to be written: one value, F as it was -/
theorem EvD.at {σ : L2.St} {G : Hp} {Q : VK} (h : EvD K te ss d) (o : Okk K G F σ ss) (q : ∀ v G', Gr G G' F → Rep K G' v d → Q v (joi G' F)) : te σ (joi G F) Q := h F σ G o Q fun v d' G' F' g r e => by
  obtain ⟨e1, e2⟩ := e
  subst e1 e2
  exact q v G' g r
theorem EvAs.at {σ : L2.St} {G : Hp} {Q : List V → Hp → Prop} (h : EvAs K tas ss ds) (o : Okk K G F σ ss) (q : ∀ vs G', Gr G G' F → RepL K G' vs ds → Q vs (joi G' F)) : tas σ (joi G F) Q := h F σ G o Q fun v d' G' F' g r e => by
  obtain ⟨e1, e2⟩ := e
  subst e1 e2
  exact q v G' g r
theorem EvB.at {σ : L2.St} {G : Hp} {Q : Bool → Hp → Prop} (h : EvB K tt ss c) (o : Okk K G F σ ss) (q : ∀ G', Gr G G' F → Q c (joi G' F)) : tt σ (joi G F) Q := h F σ G o Q fun v G' F' g e => by
  obtain ⟨e1, e2⟩ := e
  subst e1 e2
  exact q G' g
theorem EvD.mk (h : ∀ σ G F, Okk K G F σ ss → ∀ Q : VK, (∀ v G', Gr G G' F → Rep K G' v d → Q v (joi G' F)) → te σ (joi G F) Q) : EvD K te ss d := fun F σ G o Q q => h σ G F o Q fun v G' g r => q v d G' F g r ⟨rfl, rfl⟩

/-! ### names, constants -/
theorem EvD.var {i : Nat} (h : ss[i]? = some (some d)) : EvD K (tVar i) ss d := .mk fun σ G F o Q q => by
  obtain ⟨v, h1, h2⟩ := o.sg.2 i d h
  exact ⟨v, h1, q v G o.refl h2⟩
theorem EvD.con {v : V} (h : flat0 v := by trivial) : EvD K (tC v) ss (up v) := .mk fun σ G F o Q q => q v G o.refl (Rep.up h)
theorem EvD.int {i : Int} : EvD K (tC (.int i)) ss (.i i) := .con True.intro
theorem EvD.bl {i : Bool} : EvD K (tC (.bl i)) ss (.b i) := .con True.intro
theorem EvD.str {i : Str} : EvD K (tC (.str i)) ss (.s i) := .con True.intro
theorem EvD.non : EvD K (tC .non) ss .n := .con True.intro

/-! ### operators -/
theorem EvD.op {r : R2} (ha : EvD K ta ss a) (hb : EvD K tb ss b) (h : ∀ G F x y, Disj G F → Good G → Good F → Rep K G x a → Rep K G y b → ∀ Q : VK, (∀ v G', Gr G G' F → Rep K G' v d → Q v (joi G' F)) → r x y (joi G F) Q) : EvD K (tOp r ta tb) ss d := .mk fun σ G F o Q q =>
  ha.at o fun x G1 g1 rx => hb.at (o.gr g1) fun y G2 g2 ry => h G2 F x y g2.dj g2.gG g2.gF (rx.same g2.sm) ry Q fun v G3 g3 rv => q v G3 ((g1.trans g2).trans g3) rv
theorem Rep.int_inv {G : Hp} {x : V} {i : Int} (h : Rep K G x (.i i)) : x = .int i := by cases h; rfl
theorem Rep.bl_inv {G : Hp} {x : V} {i : Bool} (h : Rep K G x (.b i)) : x = .bl i := by cases h; rfl
theorem Rep.str_inv {G : Hp} {x : V} {i : Str} (h : Rep K G x (.s i)) : x = .str i := by cases h; rfl
theorem Rep.non_inv {G : Hp} {x : V} (h : Rep K G x .n) : x = .non := by cases h; rfl
theorem Rep.m_inv {G : Hp} {x : V} {i : Addr} (h : Rep K G x (.m i)) : x = .ref i := by cases h; rfl
theorem Rep.l_inv {G : Hp} {x : V} {ds : List DV} (h : Rep K G x (.l ds)) : ∃ a vs, x = .ref a ∧ G a = some (.lst vs) ∧ RepL K G vs ds := by cases h with | l h1 h2 h3 => exact ⟨_, _, rfl, h1, h2, h3⟩
theorem Rep.t_inv {G : Hp} {x : V} {ds : List DV} (h : Rep K G x (.t ds)) : ∃ a vs, x = .ref a ∧ SqT K G a vs ∧ RepL K G vs ds := by cases h with | t h1 h2 h3 => exact ⟨_, _, rfl, h1, h2, h3⟩
theorem EvD.rI {C : Int → Int → Prop} {g : Int → Int → V} {i j : Int} (ha : EvD K ta ss (.i i)) (hb : EvD K tb ss (.i j)) (hc : C i j) (hf : flat0 (g i j) := by trivial) : EvD K (tOp (rI C g) ta tb) ss (up (g i j)) :=
  .op ha hb fun G F x y dj gG gF rx ry Q q => ⟨i, j, rx.int_inv, ry.int_inv, hc, q _ G (.refl dj gG gF) (Rep.up hf)⟩
theorem EvD.rI0 {g : Int → Int → V} {i j : Int} (ha : EvD K ta ss (.i i)) (hb : EvD K tb ss (.i j)) (hf : flat0 (g i j)) : EvD K (tOp (L2.rI0 g) ta tb) ss (up (g i j)) :=
  .op ha hb fun G F x y dj gG gF rx ry Q q => ⟨i, j, rx.int_inv, ry.int_inv, q _ G (.refl dj gG gF) (Rep.up hf)⟩
theorem EvD.rU {g : Int → V} {i : Int} (ha : EvD K ta ss (.i i)) (hf : flat0 (g i) := by trivial) : EvD K (tUn (rU g) ta) ss (up (g i)) := .mk fun σ G F o Q q =>
  ha.at o fun x G1 g1 rx => ⟨i, rx.int_inv, q _ G1 g1 (Rep.up hf)⟩
theorem EvD.neg {i : Int} (ha : EvD K ta ss (.i i)) : EvD K (tUn (L2.rU fun i => .int (-i)) ta) ss (.i (-i)) := EvD.rU ha
theorem EvD.add {i j : Int} (ha : EvD K ta ss (.i i)) (hb : EvD K tb ss (.i j)) : EvD K (tOp (L2.rI0 fun i j => .int (i + j)) ta tb) ss (.i (i + j)) := EvD.rI0 (g := fun i j => _) ha hb True.intro
theorem EvD.sub {i j : Int} (ha : EvD K ta ss (.i i)) (hb : EvD K tb ss (.i j)) : EvD K (tOp (L2.rI0 fun i j => .int (i - j)) ta tb) ss (.i (i - j)) := EvD.rI0 (g := fun i j => _) ha hb True.intro
theorem EvD.mul {i j : Int} (ha : EvD K ta ss (.i i)) (hb : EvD K tb ss (.i j)) (hc : CMul i j) : EvD K (tOp (L2.rI CMul fun i j => .int (i * j)) ta tb) ss (.i (i * j)) := EvD.rI ha hb hc
theorem EvD.mod {i j : Int} (ha : EvD K ta ss (.i i)) (hb : EvD K tb ss (.i j)) (hc : 0 < j) : EvD K (tOp (L2.rI (fun _ j => 0 < j) fun i j => .int (i % j)) ta tb) ss (.i (i % j)) := EvD.rI ha hb hc
theorem EvD.lt {i j : Int} (ha : EvD K ta ss (.i i)) (hb : EvD K tb ss (.i j)) : EvD K (tOp (L2.rI0 fun i j => .bl (decide (i < j))) ta tb) ss (.b (decide (i < j))) := EvD.rI0 (g := fun i j => _) ha hb True.intro
theorem EvD.le {i j : Int} (ha : EvD K ta ss (.i i)) (hb : EvD K tb ss (.i j)) : EvD K (tOp (L2.rI0 fun i j => .bl (decide (i ≤ j))) ta tb) ss (.b (decide (i ≤ j))) := EvD.rI0 (g := fun i j => _) ha hb True.intro
theorem EvD.gt {i j : Int} (ha : EvD K ta ss (.i i)) (hb : EvD K tb ss (.i j)) : EvD K (tOp (L2.rI0 fun i j => .bl (decide (j < i))) ta tb) ss (.b (decide (j < i))) := EvD.rI0 (g := fun i j => _) ha hb True.intro
theorem EvD.ge {i j : Int} (ha : EvD K ta ss (.i i)) (hb : EvD K tb ss (.i j)) : EvD K (tOp (L2.rI0 fun i j => .bl (decide (j ≤ i))) ta tb) ss (.b (decide (j ≤ i))) := EvD.rI0 (g := fun i j => _) ha hb True.intro
/-- == of flat data -/
def eqD : DV → DV → Option Bool
  | .i x, .i y => some (decide (x = y))
  | .b x, .b y => some (decide (x = y))
  | .s x, .s y => some (decide (x = y))
  | .n, .n => some true
  | .n, .i _ => some false
  | .i _, .n => some false
  | _, _ => none
theorem eq_of_eqD {G : Hp} {x y : V} (rx : Rep K G x a) (ry : Rep K G y b) (h : eqD a b = some c) : scal x y = true ∧ decide (x = y) = c := by
  cases rx <;> cases ry <;> first | (cases h; done) | (cases h; exact ⟨rfl, by simp⟩)
theorem EvD.eq (ha : EvD K ta ss a) (hb : EvD K tb ss b) (h : eqD a b = some c) : EvD K (tOp rEq ta tb) ss (.b c) :=
  .op ha hb fun G F x y dj gG gF rx ry Q q => by
    obtain ⟨h1, h2⟩ := eq_of_eqD rx ry h
    exact ⟨h1, q _ G (.refl dj gG gF) (by rw [h2]; exact .b c)⟩
theorem EvD.ne (ha : EvD K ta ss a) (hb : EvD K tb ss b) (h : eqD a b = some c) : EvD K (tOp rNe ta tb) ss (.b (!c)) :=
  .op ha hb fun G F x y dj gG gF rx ry Q q => by
    obtain ⟨h1, h2⟩ := eq_of_eqD rx ry h
    exact ⟨h1, q _ G (.refl dj gG gF) (by rw [h2]; exact .b _)⟩
theorem EvD.eqI {i j : Int} (ha : EvD K ta ss (.i i)) (hb : EvD K tb ss (.i j)) : EvD K (tOp rEq ta tb) ss (.b (decide (i = j))) := .eq ha hb rfl
theorem EvD.neI {i j : Int} (ha : EvD K ta ss (.i i)) (hb : EvD K tb ss (.i j)) : EvD K (tOp rNe ta tb) ss (.b (!decide (i = j))) := .ne ha hb rfl
theorem EvD.eqS {i j : Str} (ha : EvD K ta ss (.s i)) (hb : EvD K tb ss (.s j)) : EvD K (tOp rEq ta tb) ss (.b (decide (i = j))) := .eq ha hb rfl
theorem EvD.neS {i j : Str} (ha : EvD K ta ss (.s i)) (hb : EvD K tb ss (.s j)) : EvD K (tOp rNe ta tb) ss (.b (!decide (i = j))) := .ne ha hb rfl
theorem EvD.eqB {i j : Bool} (ha : EvD K ta ss (.b i)) (hb : EvD K tb ss (.b j)) : EvD K (tOp rEq ta tb) ss (.b (decide (i = j))) := .eq ha hb rfl
theorem EvD.neB {i j : Bool} (ha : EvD K ta ss (.b i)) (hb : EvD K tb ss (.b j)) : EvD K (tOp rNe ta tb) ss (.b (!decide (i = j))) := .ne ha hb rfl
def isN : DV → Bool
  | .n => true
  | .gh d _ _ => isN d
  | _ => false
theorem Rep.isN {G : Hp} {x : V} (h : Rep K G x a) : decide (x = .non) = isN a := by induction h <;> simp_all [Lay.isN]
theorem EvD.isNone (ha : EvD K ta ss a) (hb : EvD K tb ss .n) : EvD K (tOp rIsN ta tb) ss (.b (Lay.isN a)) :=
  .op ha hb fun G F x y dj gG gF rx ry Q q => ⟨ry.non_inv, by rw [rx.isN]; exact q _ G (.refl dj gG gF) (.b _)⟩
theorem EvD.notNone (ha : EvD K ta ss a) (hb : EvD K tb ss .n) : EvD K (tOp rNotN ta tb) ss (.b (!Lay.isN a)) :=
  .op ha hb fun G F x y dj gG gF rx ry Q q => ⟨ry.non_inv, by rw [rx.isN]; exact q _ G (.refl dj gG gF) (.b _)⟩
theorem EvD.isN1 (ha : EvD K ta ss a) : EvD K (tIsN ta) ss (.b (Lay.isN a)) := .mk fun σ G F o Q q => ha.at o fun x G1 g1 rx => by
  show Q _ _
  rw [rx.isN]
  exact q _ G1 g1 (.b _)
theorem EvD.notN1 (ha : EvD K ta ss a) : EvD K (tNotN ta) ss (.b (!Lay.isN a)) := .mk fun σ G F o Q q => ha.at o fun x G1 g1 rx => by
  show Q _ _
  rw [rx.isN]
  exact q _ G1 g1 (.b _)
/-- subscripts -/
theorem EvD.ixL {i : Int} (ha : EvD K ta ss (.l ds)) (hb : EvD K tb ss (.i i)) (h : atI ds i = some d) : EvD K (tOp (rIxL K) ta tb) ss d :=
  .op ha hb fun G F x y dj gG gF rx ry Q q => by
    obtain ⟨p, vs, rfl, hs, hr⟩ := rx.l_inv
    obtain ⟨v, hv, rv⟩ := hr.atI h
    exact ⟨p, vs, i, v, rfl, ry.int_inv, SqL.of (joi_l hs), hv, q v G (.refl dj gG gF) rv⟩
theorem EvD.ixT {i : Int} (ha : EvD K ta ss (.t ds)) (hb : EvD K tb ss (.i i)) (h : atI ds i = some d) : EvD K (tOp (rIxT K) ta tb) ss d :=
  .op ha hb fun G F x y dj gG gF rx ry Q q => by
    obtain ⟨p, vs, rfl, hs, hr⟩ := rx.t_inv
    obtain ⟨v, hv, rv⟩ := hr.atI h
    exact ⟨p, vs, i, v, rfl, ry.int_inv, sqt_same same_joi hs, hv, q v G (.refl dj gG gF) rv⟩
theorem EvD.addS {i j : Str} (ha : EvD K ta ss (.s i)) (hb : EvD K tb ss (.s j)) (h : i.length + j.length ≤ sizeLine) : EvD K (tOp rAddS ta tb) ss (.s (i ++ j)) :=
  .op ha hb fun G F x y dj gG gF rx ry Q q => ⟨i, j, rx.str_inv, ry.str_inv, h, q _ G (.refl dj gG gF) (.s _)⟩

/-! ### and, or, not, if -/
theorem EvD.and (ha : EvD K ta ss (.b c1)) (hb : c1 = true → EvD K tb ss (.b c2)) : EvD K (tAndV ta tb) ss (.b (c1 && c2)) := .mk fun σ G F o Q q => ha.at o fun x G1 g1 rx => ⟨c1, rx.bl_inv, by
  cases c1 with
  | true => exact (hb rfl).at (o.gr g1) fun y G2 g2 ry => q y G2 (g1.trans g2) ry
  | false => exact q _ G1 g1 (.b _)⟩
theorem EvD.or (ha : EvD K ta ss (.b c1)) (hb : c1 = false → EvD K tb ss (.b c2)) : EvD K (tOrV ta tb) ss (.b (c1 || c2)) := .mk fun σ G F o Q q => ha.at o fun x G1 g1 rx => ⟨c1, rx.bl_inv, by
  cases c1 with
  | false => exact (hb rfl).at (o.gr g1) fun y G2 g2 ry => q y G2 (g1.trans g2) ry
  | true => exact q _ G1 g1 (.b _)⟩
theorem EvD.not (ha : EvD K ta ss (.b c1)) : EvD K (tNotV ta) ss (.b (!c1)) := .mk fun σ G F o Q q => ha.at o fun x G1 g1 rx => ⟨c1, rx.bl_inv, q _ G1 g1 (.b _)⟩
theorem EvB.val (h : EvD K te ss (.b c)) : EvB K (tB te) ss c := fun F σ G o Q q => h.at o fun x G1 g1 rx => ⟨c, rx.bl_inv, q _ G1 F g1 ⟨rfl, rfl⟩⟩
theorem EvB.test (h : EvD K te ss (.b c)) : EvB K (tTest te) ss c := fun F σ G o Q q => h.at o fun x G1 g1 rx => ⟨c, rx.bl_inv, q _ G1 F g1 ⟨rfl, rfl⟩⟩
theorem EvT.val (h : EvF K te ss F fun d F' => ∃ c, d = .b c ∧ PB c F') : EvT K (tB te) ss F PB := fun σ G o Q q => h σ G o _ fun v d G' F' g r ⟨c, e, p⟩ => by
  subst e
  exact ⟨c, r.bl_inv, q _ G' F' g p⟩
theorem EvT.test (h : EvF K te ss F fun d F' => ∃ c, d = .b c ∧ PB c F') : EvT K (tTest te) ss F PB := fun σ G o Q q => h σ G o _ fun v d G' F' g r ⟨c, e, p⟩ => by
  subst e
  exact ⟨c, r.bl_inv, q _ G' F' g p⟩
theorem EvB.and (ha : EvB K tt ss c1) (hb : c1 = true → EvB K tu ss c2) : EvB K (tAnd tt tu) ss (c1 && c2) := fun F σ G o Q q => ha.at o fun G1 g1 => by
  cases c1 with
  | true => exact (hb rfl).at (o.gr g1) fun G2 g2 => q _ G2 F (g1.trans g2) ⟨rfl, rfl⟩
  | false => exact q _ G1 F g1 ⟨rfl, rfl⟩
theorem EvB.or (ha : EvB K tt ss c1) (hb : c1 = false → EvB K tu ss c2) : EvB K (tOr tt tu) ss (c1 || c2) := fun F σ G o Q q => ha.at o fun G1 g1 => by
  cases c1 with
  | false => exact (hb rfl).at (o.gr g1) fun G2 g2 => q _ G2 F (g1.trans g2) ⟨rfl, rfl⟩
  | true => exact q _ G1 F g1 ⟨rfl, rfl⟩
theorem EvB.not (ha : EvB K tt ss c1) : EvB K (tNot tt) ss (!c1) := fun F σ G o Q q => ha.at o fun G1 g1 => q _ G1 F g1 ⟨rfl, rfl⟩
theorem EvT.and (ha : EvT K tt ss F fun c F1 => if c = true then EvT K tu ss F1 PB else PB false F1) : EvT K (tAnd tt tu) ss F PB := fun σ G o Q q => ha σ G o _ fun c G1 F1 g1 p => by
  cases c with
  | true => exact p σ G1 (o.gr g1) Q fun c' G2 F2 g2 p2 => q c' G2 F2 (g1.trans g2) p2
  | false => exact q _ G1 F1 g1 p
theorem EvT.or (ha : EvT K tt ss F fun c F1 => if c = true then PB true F1 else EvT K tu ss F1 PB) : EvT K (tOr tt tu) ss F PB := fun σ G o Q q => ha σ G o _ fun c G1 F1 g1 p => by
  cases c with
  | false => exact p σ G1 (o.gr g1) Q fun c' G2 F2 g2 p2 => q c' G2 F2 (g1.trans g2) p2
  | true => exact q _ G1 F1 g1 p
theorem EvT.not (ha : EvT K tt ss F fun c F1 => PB (!c) F1) : EvT K (tNot tt) ss F PB := fun σ G o Q q => ha σ G o _ fun c G1 F1 g1 p => q _ G1 F1 g1 p
theorem EvF.ite (hc : EvT K tt ss F fun c F1 => if c = true then EvF K ta ss F1 P else EvF K tb ss F1 P) : EvF K (tIf tt ta tb) ss F P := fun σ G o Q q => hc σ G o _ fun c G1 F1 g1 p => by
  cases c with
  | true => exact p σ G1 (o.gr g1) Q (q.gr g1)
  | false => exact p σ G1 (o.gr g1) Q (q.gr g1)
theorem EvD.ite (hc : EvB K tt ss c) (ha : c = true → EvD K ta ss a) (hb : c = false → EvD K tb ss b) : EvD K (tIf tt ta tb) ss (if c = true then a else b) := .mk fun σ G F o Q q => hc.at o fun G1 g1 => by
  cases c with
  | true => exact (ha rfl).at (o.gr g1) fun y G2 g2 ry => q y G2 (g1.trans g2) ry
  | false => exact (hb rfl).at (o.gr g1) fun y G2 g2 ry => q y G2 (g1.trans g2) ry
/-- a chain of two comparisons of ints -/
theorem EvB.chain {r r' : Int → Int → Bool} {tc : TE} {i j k : Int} (ha : EvD K ta ss (.i i)) (hb : EvD K tb ss (.i j)) (hc : r i j = true → EvD K tc ss (.i k)) :
    EvB K (tTest (tChain (L2.rI0 fun i j => .bl (r i j)) (L2.rI0 fun i j => .bl (r' i j)) ta tb tc)) ss (r i j && r' j k) := fun F σ G o Q q =>
  ha.at o fun x G1 g1 rx => hb.at (o.gr g1) fun y G2 g2 ry => ⟨i, j, rx.int_inv, ry.int_inv, r i j, rfl, by
    cases e : r i j with
    | false => exact ⟨false, rfl, q _ G2 F (g1.trans g2) ⟨by rw [e, Bool.false_and], rfl⟩⟩
    | true => exact (hc e).at (o.gr (g1.trans g2)) fun z G3 g3 rz => ⟨j, k, ry.int_inv, rz.int_inv, r' j k, rfl, q _ G3 F ((g1.trans g2).trans g3) ⟨by rw [e, Bool.true_and], rfl⟩⟩⟩

/-! ### arguments, displays -/
theorem EvAs.nil : EvAs K tNil ss [] := fun F σ G o Q q => q [] [] G F o.refl .nil ⟨rfl, rfl⟩
theorem EvAs.cons (h : EvD K te ss d) (t : EvAs K tas ss ds) : EvAs K (tCons te tas) ss (d :: ds) := fun F σ G o Q q =>
  h.at o fun x G1 g1 rx => t.at (o.gr g1) fun vs G2 g2 rs => q _ _ G2 F (g1.trans g2) (.cons (rx.same g2.sm) rs) ⟨rfl, rfl⟩
theorem EvA.nil (p : PA [] F) : EvA K tNil ss F PA := EvAs.nil.eva p
theorem EvA.cons (h : EvF K te ss F fun d F1 => EvA K tas ss F1 fun ds F2 => PA (d :: ds) F2) : EvA K (tCons te tas) ss F PA := fun σ G o Q q =>
  h σ G o _ fun x d G1 F1 g1 rx p => p σ G1 (o.gr g1) _ fun vs ds G2 F2 g2 rs p2 => q _ _ G2 F2 (g1.trans g2) (.cons (rx.same g2.sm) rs) p2
theorem EvD.lst (h : EvAs K tas ss ds) (hz : ds.length ≤ sizeLine) : EvD K (tLst tas) ss (.l ds) := .mk fun σ G F o Q q => h.at o fun vs G1 g1 rs => ⟨by rw [rs.1]; exact hz, fun p hp => by
  have g2 : Gr G1 (upd G1 p (.lst vs)) F := .new g1.dj g1.gG g1.gF hp
  have := q (.ref p) _ (g1.trans g2) (.l upd_same rs.1 (rs.same g2.sm).2)
  rw [joi_new]
  exact this⟩
theorem EvD.tup (h : EvAs K tas ss ds) (hz : ds.length ≤ sizeLine) : EvD K (tTup tas) ss (.t ds) := .mk fun σ G F o Q q => h.at o fun vs G1 g1 rs => ⟨by rw [rs.1]; exact hz, fun p hp => by
  have g2 : Gr G1 (upd G1 p (.tup vs)) F := .new g1.dj g1.gG g1.gF hp
  have := q (.ref p) _ (g1.trans g2) (.t (.of upd_same) rs.1 (rs.same g2.sm).2)
  rw [joi_new]
  exact this⟩
/-- a display that is changed afterwards: it stands in F -/
theorem EvF.lstF (h : EvAs K tas ss (ds.map id)) (hz : ds.length ≤ sizeLine) (hp : ∀ p vs, F p = none → (∀ G, RepL K G vs ds) → P (.m p) (upd F p (.lst vs))) (hfl : ∀ d ∈ ds, (∃ v, flat0 v ∧ (∀ a, v ≠ .ref a) ∧ d = up v)) : EvF K (tLst tas) ss F P := fun σ G o Q q => h.at o fun vs G1 g1 rs => ⟨by rw [rs.1]; simpa using hz, fun p hn => by
  have hG : G1 p = none := (joi_none hn).1
  have g2 : Gr G1 G1 (upd F p (.lst vs)) := .newF g1.dj g1.gG g1.gF hn
  rw [joi_put hG]
  refine q (.ref p) (.m p) G1 _ (g1.trans g2) (.m p) (hp p vs (joi_none hn).2 fun G' => ?_)
  rw [List.map_id] at rs
  refine ⟨rs.1, fun k v d h1 h2 => ?_⟩
  obtain ⟨w, hw, hr, e⟩ := hfl d (List.mem_of_getElem? h2)
  have z := rs.2 k v d h1 h2
  subst e
  have ev : v = w := by cases w <;> first | exact hw.elim | exact absurd rfl (hr _) | (cases z; rfl)
  subst ev
  exact Rep.up hw⟩
theorem EvF.nilF (hp : ∀ p, F p = none → P (.m p) (upd F p (.lst []))) : EvF K (tLst tNil) ss F P := fun σ G o Q q => ⟨by show 0 ≤ sizeLine; exact Nat.zero_le _, fun p hn => by
  rw [joi_put (joi_none hn).1]
  exact q (.ref p) (.m p) G _ (.newF o.dj o.gG o.gF hn) (.m p) (hp p (joi_none hn).2)⟩

/-! ### statements -/
theorem RnF.seq (h : RnF K ts ss F (fun ss' F' => RnF K tr ss' F' N R) R) : RnF K (tSeq ts tr) ss F N R := fun σ G o D hN hR =>
  h σ G o { D with nx := tr D } (fun σ' ss' G' F' g s p => p σ' G' ⟨s, g.dj, g.gG, g.gF⟩ D (fun σ2 ss2 G2 F2 g2 s2 p2 => hN σ2 ss2 G2 F2 (g.trans g2) s2 p2) (hR.gr g)) hR
theorem RnF.nil (h : N ss F) : RnF K tNext ss F N R := fun σ G o D hN hR => hN σ ss G F o.refl o.sg h
theorem RnF.asg {i : Nat} (h : EvF K te ss F fun d F' => N (ss.set i (some d)) F') : RnF K (tAsg te (gName i)) ss F N R := fun σ G o D hN hR =>
  h σ G o _ fun v d G' F' g r p => hN _ _ G' F' g ((o.gr g).sg.set r) p
theorem RnF.drop (h : EvF K te ss F fun _ F' => N ss F') : RnF K (tDrop te) ss F N R := fun σ G o D hN hR =>
  h σ G o _ fun v d G' F' g r p => hN _ _ G' F' g (o.gr g).sg p
theorem RnF.ret (h : EvF K te ss F R) : RnF K (tRet te) ss F N R := fun σ G o D hN hR => h σ G o _ hR
theorem RnF.retN (h : R .n F) : RnF K tRetN ss F N R := fun σ G o D hN hR => hR .non .n G F o.refl .n h
theorem RnF.ifS (h : EvT K tt ss F fun c F' => if c = true then RnF K ts ss F' N R else RnF K tr ss F' N R) : RnF K (tIfS tt ts tr) ss F N R := fun σ G o D hN hR =>
  h σ G o _ fun c G' F' g p => by
    have p' : ∀ (u : TS), RnF K u ss F' N R → u D σ (joi G' F') := fun u hu => hu σ G' (o.gr g) D (fun σ2 ss2 G2 F2 g2 s2 p2 => hN σ2 ss2 G2 F2 (g.trans g2) s2 p2) (hR.gr g)
    cases c with
    | true => exact p' ts p
    | false => exact p' tr p
theorem RnF.ifB (hc : EvB K tt ss c) (h1 : c = true → RnF K ts ss F N R) (h2 : c = false → RnF K tr ss F N R) : RnF K (tIfS tt ts tr) ss F N R := .ifS (hc.evt (by
  cases c with
  | true => exact h1 rfl
  | false => exact h2 rfl))
theorem RnF.mono {N' : List (Option DV) → Hp → Prop} {R' : DV → Hp → Prop} (h : RnF K ts ss F N R) (hN : ∀ s F', N s F' → N' s F') (hR : ∀ d F', R d F' → R' d F') : RnF K ts ss F N' R' := fun σ G o D nx rt =>
  h σ G o D (fun σ' ss' G' F' g s p => nx σ' ss' G' F' g s (hN _ _ p)) fun v d G' F' g r p => rt v d G' F' g r (hR _ _ p)
/-- behind a statement that only knows less -/
theorem RnF.weak {ss2 : List (Option DV)} (h : RnF K ts ss2 F N R) (hl : ss2.length = ss.length) (hi : ∀ (i : Nat) (d : DV), ss2[i]? = some (some d) → ss[i]? = some (some d)) : RnF K ts ss F N R := fun σ G o D nx rt => h σ G ⟨o.sg.less hl hi, o.dj, o.gG, o.gF⟩ D nx rt
/-- what F holds last goes over to G; the slot that held its address holds data -/
theorem EvF.ice {p : Addr} {vs : List V} {F0 : Hp} (h : EvF K te ss F fun d F' => d = .m p ∧ F' = upd F0 p (.lst vs)) (hr : ∀ G, RepL K G vs ds) (hF : Good F → Good F0) (hp : F0 p = none) (hgF : Good F) (q : P (.l ds) F0) : EvF K te ss F P := fun σ G o Q go =>
  h σ G o _ fun v d G' F' g r e => by
    obtain ⟨e1, e2⟩ := e
    subst e1 e2
    have g2 : Gr G' (upd G' p (.lst vs)) F0 := .ice g.dj g.gG (hF hgF) hp
    have hG : G' p = none := (g.dj p).resolve_right fun z => by rw [upd_same] at z; cases z
    rw [joi_ice hG]
    obtain rfl := r.m_inv
    exact go (.ref p) (.l ds) _ _ (g.trans g2) (.l upd_same (hr (upd G' p (.lst vs))).1 (hr (upd G' p (.lst vs))).2) q
end
end Lay
end
section
set_option Elab.async false
set_option linter.all false
set_option autoImplicit false
set_option maxRecDepth 100000
set_option maxHeartbeats 4000000
/-! own layer G: calls, loops, comprehensions over plain data -/
namespace Lay
open PySem PySem.Spec PyProof.Rows L2

/-! ### promises over plain data -/
abbrev Ph : Type := List DV → Hp → (DV → Hp → Prop) → Prop
def PD (K : PySem.W.Frag) (Φ : Ph) : Sp := fun vs H Q _ => ∃ G F ds P, H = joi G F ∧ Disj G F ∧ Good G ∧ Good F ∧ RepL K G vs ds ∧ Φ ds F P ∧ Goes K G P Q
/-- a def that only computes -/
def Pu (φ : List DV → DV → Prop) : Ph := fun ds F P => ∃ d, φ ds d ∧ P d F
def stD (N : List Str) (ds : List DV) : List (Option DV) := ds.map some ++ List.replicate (N.length - ds.length) none
theorem sg_start {K : PySem.W.Frag} {G : Hp} {N : List Str} {vs : List V} {ds : List DV} (r : RepL K G vs ds) : Sg K G (L2.start N vs) (stD N ds) := by
  refine ⟨by simp [L2.start, stD, r.1], fun i d hi => ?_⟩
  unfold stD at hi
  unfold L2.start
  by_cases h : i < ds.length
  · rw [List.getElem?_append_left (by simpa using h), List.getElem?_map] at hi
    cases e : ds[i]? with
    | none => rw [e] at hi; cases hi
    | some d' =>
      rw [e] at hi
      cases hi
      obtain ⟨v, h1, h2⟩ := r.get e
      refine ⟨v, ?_, h2⟩
      rw [List.getElem?_append_left (by simpa [r.1] using h), List.getElem?_map, h1]
      rfl
  · rw [List.getElem?_append_right (by simpa using h)] at hi
    have := List.mem_of_getElem? hi
    simp at this
section
variable {P : Program} {w : World} {K : PySem.W.Frag} {mg : Str → Option Value} {base : Heap} {k : Nat} {f : Addr} {x qual : Str} {params : Arguments} {body : List Stmt} {scope : Scope} {fd : FuncData} {N ps : List Str} {Φ Ψ : Ph}
/-- THE RULE for a def that raises nothing -/
theorem fnD_of {CX : CXT} (F : FunD K x qual params body scope [] [] f fd) (S : FnScope N ps scope) (hb : Binds K fd ps []) (len : ∀ ds F P, Φ ds F P → ds.length = ps.length)
    (hbody : ∀ (cdv : Value) (A : Around) (outer : List Env) (s : Shared) (H : Hp) (E : XK), Room k (A.deeper (envOfC qual scope s.heap.objs.size f cdv)) →
      ∃ t, PSs (cxOf CX P w K mg base N qual scope f cdv A outer s H E) body t ∧ ∀ ds F P, Φ ds F P → Good F → RnF K t (stD N ds) F (fun _ F' => P .n F') P) : FnR P w K mg base CX (k + 1) f (PD K Φ) := by
  refine (FnOk.raw (FunD.ok F S (sp := PD K Φ) (fun vs H Q E h => ?_) fun cdv A outer s H vs Q E hr h => ?_) hb .nil).imp fun vs H Q E h => by rw [List.append_nil]; exact h
  · obtain ⟨G, F, ds, P, _, _, _, _, r, hΦ, _⟩ := h
    rw [r.1]
    exact len ds F P hΦ
  · obtain ⟨G, F, ds, P, eH, dj, gG, gF, r, hΦ, go⟩ := h
    obtain ⟨t, ht, hq⟩ := hbody cdv A outer s H E hr
    refine ⟨t, ht, ?_⟩
    subst eH
    exact hq ds F P hΦ gF _ G ⟨sg_start r, dj, gG, gF⟩ _ (fun σ' ss' G' F' g _ p => go .non .n G' F' g .n p) go
theorem FnR.ph {CX : CXT} (F : FnR P w K mg base CX k f (PD K Φ)) (h : ∀ ds F P, Ψ ds F P → Φ ds F P) : FnR P w K mg base CX k f (PD K Ψ) := F.imp fun vs H Q E ⟨G, F, ds, P, a, b, c, d, e, hΦ, g⟩ => ⟨G, F, ds, P, a, b, c, d, e, h _ _ _ hΦ, g⟩
end
section
variable {K : PySem.W.Frag} {te ta tb tl : TE} {tt tu : TT} {ts tr : TS} {tas : TA} {ss : List (Option DV)} {F : Hp} {P P' : DV → Hp → Prop} {PB : Bool → Hp → Prop} {PA : List DV → Hp → Prop} {a b d : DV} {N : List (Option DV) → Hp → Prop} {R : DV → Hp → Prop} {c c1 c2 : Bool} {ds es : List DV} {Φ : Ph} {φ : List DV → DV → Prop} {E : L2.St → XK}
theorem EvF.call (h : EvA K tas ss F fun ds F' => Φ ds F' P) : EvF K (tCallS (PD K Φ) E tas) ss F P := fun σ G o Q q => h σ G o _ fun vs ds G' F' g r p => ⟨G', F', ds, P, rfl, g.dj, g.gG, g.gF, r, p, q.gr g⟩
theorem EvD.call (h : EvAs K tas ss ds) (p : φ ds d) : EvD K (tCallS (PD K (Pu φ)) E tas) ss d := fun F => EvF.call (h.eva ⟨d, p, rfl, rfl⟩)
/-- a def called where a Links object stands in F -/
theorem EvF.weakG (h : EvD K te ss d) (p : P d F) : EvF K te ss F P := h.evf p

/-! ### built-in calls -/
theorem EvD.cb {r : List V → Hp → VK → Prop} (h : EvAs K tas ss ds) (hr : ∀ G F vs, Disj G F → Good G → Good F → RepL K G vs ds → ∀ Q : VK, (∀ v G', Gr G G' F → Rep K G' v d → Q v (joi G' F)) → r vs (joi G F) Q) : EvD K (tCB r tas) ss d := .mk fun σ G F o Q q =>
  h.at o fun vs G1 g1 rs => hr G1 F vs g1.dj g1.gG g1.gF rs Q fun v G2 g2 rv => q v G2 (g1.trans g2) rv
theorem RepL.one {G : Hp} {vs : List V} (h : RepL K G vs [d]) : ∃ v, vs = [v] ∧ Rep K G v d := by
  obtain ⟨v, ws, e, r, t⟩ := h.uncons
  have := t.unnil
  subst this
  exact ⟨v, e, r⟩
theorem RepL.two {G : Hp} {vs : List V} (h : RepL K G vs [a, b]) : ∃ v w, vs = [v, w] ∧ Rep K G v a ∧ Rep K G w b := by
  obtain ⟨v, ws, e, r, t⟩ := h.uncons
  obtain ⟨w, e2, r2⟩ := t.one
  subst e2
  exact ⟨v, w, e, r, r2⟩
abbrev rLenS (K : PySem.W.Frag) : List V → Hp → VK → Prop := fun xs H Q => ∃ p ys, xs = [.ref p] ∧ (SqL K H p ys ∨ SqT K H p ys) ∧ Q (.int ys.length) H
theorem EvD.len (h : EvD K te ss (.l es)) : EvD K (tCB (rLenS K) (tCons te tNil)) ss (.i es.length) := .cb (.cons h .nil) fun G F vs dj gG gF r Q q => by
  obtain ⟨v, rfl, rv⟩ := r.one
  obtain ⟨a, ws, rfl, ha, hr⟩ := rv.l_inv
  exact ⟨a, ws, rfl, .inl (.of (joi_l ha)), by rw [hr.1]; exact q _ G (.refl dj gG gF) (.i _)⟩
theorem EvD.lenT (h : EvD K te ss (.t es)) : EvD K (tCB (rLenS K) (tCons te tNil)) ss (.i es.length) := .cb (.cons h .nil) fun G F vs dj gG gF r Q q => by
  obtain ⟨v, rfl, rv⟩ := r.one
  obtain ⟨a, ws, rfl, ha, hr⟩ := rv.t_inv
  exact ⟨a, ws, rfl, .inr (sqt_same same_joi ha), by rw [hr.1]; exact q _ G (.refl dj gG gF) (.i _)⟩
theorem EvD.lenS {xs : List Int} (h : EvD K te ss (.sc xs)) : EvD K (tCB (rLenS K) (tCons te tNil)) ss (.i xs.length) := .cb (.cons h .nil) fun G F vs dj gG gF r Q q => by
  obtain ⟨v, rfl, rv⟩ := r.one
  cases rv with
  | sc ha => exact ⟨_, _, rfl, .inl (sql_same same_joi ha), by rw [List.length_map]; exact q _ G (.refl dj gG gF) (.i _)⟩
theorem EvD.ixS {xs : List Int} {i j : Int} (ha : EvD K ta ss (.sc xs)) (hb : EvD K tb ss (.i i)) (h : atI xs i = some j) : EvD K (tOp (rIxL K) ta tb) ss (.i j) :=
  .op ha hb fun G F x y dj gG gF rx ry Q q => by
    cases rx with
    | sc hs =>
      refine ⟨_, _, i, .int j, rfl, ry.int_inv, sql_same same_joi hs, ?_, q _ G (.refl dj gG gF) (.i _)⟩
      unfold L2.atI at h ⊢
      rw [List.length_map]
      cases z : ixN xs.length i with
      | none => rw [z] at h; cases h
      | some m =>
        rw [z] at h
        show (xs.map V.int)[m]? = _
        rw [List.getElem?_map, (show xs[m]? = some j from h)]
        rfl
abbrev rAbs : List V → Hp → VK → Prop := fun xs H Q => ∃ i, xs = [.int i] ∧ Q (.int (if i < 0 then -i else i)) H
def iabs (i : Int) : Int := if i < 0 then -i else i
theorem EvD.abs {i : Int} (h : EvD K te ss (.i i)) : EvD K (tCB rAbs (tCons te tNil)) ss (.i (iabs i)) := .cb (.cons h .nil) fun G F vs dj gG gF r Q q => by
  obtain ⟨v, rfl, rv⟩ := r.one
  obtain rfl := rv.int_inv
  exact ⟨i, rfl, q _ G (.refl dj gG gF) (.i _)⟩
abbrev rStrI : List V → Hp → VK → Prop := fun xs H Q => ∃ i, xs = [.int i] ∧ i.natAbs.log2 < 1920 ∧ Q (.str (toString i)) H
def strI (i : Int) : Str := toString i
theorem EvD.strOf {i : Int} (h : EvD K te ss (.i i)) (hz : i.natAbs.log2 < 1920) : EvD K (tCB rStrI (tCons te tNil)) ss (.s (strI i)) := .cb (.cons h .nil) fun G F vs dj gG gF r Q q => by
  obtain ⟨v, rfl, rv⟩ := r.one
  obtain rfl := rv.int_inv
  exact ⟨i, rfl, hz, q _ G (.refl dj gG gF) (.s _)⟩
abbrev rMin2 : List V → Hp → VK → Prop := fun xs H Q => ∃ i j, xs = [.int i, .int j] ∧ Q (.int (if j < i then j else i)) H
theorem EvD.min2 {i j : Int} (ha : EvD K ta ss (.i i)) (hb : EvD K tb ss (.i j)) : EvD K (tCB rMin2 (tCons ta (tCons tb tNil))) ss (.i (if j < i then j else i)) := .cb (.cons ha (.cons hb .nil)) fun G F vs dj gG gF r Q q => by
  obtain ⟨v, w, rfl, rv, rw_⟩ := r.two
  obtain rfl := rv.int_inv
  obtain rfl := rw_.int_inv
  exact ⟨i, j, rfl, q _ G (.refl dj gG gF) (.i _)⟩
abbrev rListOf (K : PySem.W.Frag) : List V → Hp → VK → Prop := fun xs H Q => ∃ p ys, xs = [.ref p] ∧ (SqL K H p ys ∨ SqT K H p ys) ∧ ∀ l, H l = none → Q (.ref l) (upd H l (.lst ys))
theorem EvD.listOf (h : EvD K te ss (.l es)) : EvD K (tCB (rListOf K) (tCons te tNil)) ss (.l es) := .cb (.cons h .nil) fun G F vs dj gG gF r Q q => by
  obtain ⟨v, rfl, rv⟩ := r.one
  obtain ⟨a, ws, rfl, ha, hr⟩ := rv.l_inv
  refine ⟨a, ws, rfl, .inl (.of (joi_l ha)), fun l hl => ?_⟩
  have g2 : Gr G (upd G l (.lst ws)) F := .new dj gG gF hl
  rw [joi_new]
  exact q _ _ g2 (.l upd_same hr.1 (hr.same g2.sm).2)
/-- list(x), changed afterwards: it stands in F -/
theorem EvF.listF (h : EvD K te ss (.l es)) (hp : ∀ p G vs, F p = none → RepL K G vs es → P (.m p) (upd F p (.lst vs))) : EvF K (tCB (rListOf K) (tCons te tNil)) ss F P := fun σ G o Q q =>
  h.at o fun v G1 g1 rv => by
    obtain ⟨a, ws, rfl, ha, hr⟩ := rv.l_inv
    refine ⟨a, ws, rfl, .inl (.of (joi_l ha)), fun l hl => ?_⟩
    rw [joi_put (joi_none hl).1]
    exact q _ _ G1 _ (g1.trans (.newF g1.dj g1.gG g1.gF hl)) (.m l) (hp l G1 ws (joi_none hl).2 hr)
theorem EvD.sum {xs : List Int} (h : EvD K te ss (.l (xs.map DV.i))) : EvD K (tCB (rSum K) (tCons te tNil)) ss (.i xs.sum) := .cb (.cons h .nil) fun G F vs dj gG gF r Q q => by
  obtain ⟨v, rfl, rv⟩ := r.one
  obtain ⟨a, ws, rfl, ha, hr⟩ := rv.l_inv
  have e : ws = xs.map V.int := by
    refine List.ext_getElem? fun i => ?_
    by_cases hi : i < ws.length
    · obtain ⟨d', hd⟩ : ∃ d', (xs.map DV.i)[i]? = some d' := ⟨_, List.getElem?_eq_getElem (by rw [← hr.1]; exact hi)⟩
      have z := hr.2 i ws[i] d' (List.getElem?_eq_getElem hi) hd
      rw [List.getElem?_map] at hd ⊢
      cases e : xs[i]? with
      | none => rw [e] at hd; cases hd
      | some j =>
        rw [e] at hd
        cases hd
        rw [List.getElem?_eq_getElem hi, z.int_inv]
        rfl
    · have h1 := hr.1
      simp only [List.length_map] at h1
      rw [List.getElem?_eq_none (by omega), List.getElem?_eq_none (by simp; omega)]
  subst e
  exact ⟨a, xs, rfl, .of (joi_l ha), q _ G (.refl dj gG gF) (.i _)⟩
/-- + of lists -/
theorem EvD.cat (ha : EvD K ta ss (.l ds)) (hb : EvD K tb ss (.l es)) (hz : ds.length + es.length ≤ sizeLine) : EvD K (tOp rCat ta tb) ss (.l (ds ++ es)) :=
  .op ha hb fun G F x y dj gG gF rx ry Q q => by
    obtain ⟨a, ws, rfl, ha, hr⟩ := rx.l_inv
    obtain ⟨b, us, rfl, hb, hr2⟩ := ry.l_inv
    refine ⟨a, b, ws, us, rfl, rfl, joi_l ha, joi_l hb, by rw [hr.1, hr2.1]; exact hz, fun p hp => ?_⟩
    have g2 : Gr G (upd G p (.lst (ws ++ us))) F := .new dj gG gF hp
    rw [joi_new]
    have hr3 := (hr.append hr2).same g2.sm
    exact q _ _ g2 (.l upd_same hr3.1 hr3.2)
/-- slices -/
def sPart (i : Option Int) (n d : Nat) : Nat := HT.sIx n d i
inductive EvO (K : PySem.W.Frag) (ss : List (Option DV)) : TO → Option Int → Prop
  | no : EvO K ss tNoPart none
  | some {te : TE} {i : Int} : EvD K te ss (.i i) → EvO K ss (tPart te) (some i)
theorem EvO.at {to_ : TO} {i : Option Int} {σ : L2.St} {G F : Hp} {Q : Option Int → Hp → Prop} (h : EvO K ss to_ i) (o : Okk K G F σ ss) (q : ∀ G', Gr G G' F → Q i (joi G' F)) : to_ σ (joi G F) Q := by
  cases h with
  | no => exact q G o.refl
  | some h => exact h.at o fun v G1 g1 rv => ⟨_, rv.int_inv, q G1 g1⟩
def cutD (xs : List DV) (lo hi : Option Int) : List DV := (xs.drop (HT.sIx xs.length 0 lo)).take (HT.sIx xs.length xs.length hi - HT.sIx xs.length 0 lo)
theorem EvD.slice {tlo thi : TO} {lo hi : Option Int} (h : EvD K te ss (.l ds)) (hl : EvO K ss tlo lo) (hh : EvO K ss thi hi) : EvD K (tSl (rSlL K) te tlo thi) ss (.l (cutD ds lo hi)) := .mk fun σ G F o Q q =>
  h.at o fun x G1 g1 rx => hl.at (o.gr g1) fun G2 g2 => hh.at (o.gr (g1.trans g2)) fun G3 g3 => by
    obtain ⟨a, ws, rfl, ha, hr⟩ := (rx.same (g2.trans g3).sm).l_inv
    refine ⟨a, ws, rfl, .of (joi_l ha), fun p hp => ?_⟩
    have g4 : Gr G3 (upd G3 p (.lst (cutV ws lo hi))) F := .new g3.dj g3.gG g3.gF hp
    rw [joi_new]
    have hr2 := ((hr.drop (HT.sIx ws.length 0 lo)).take (HT.sIx ws.length ws.length hi - HT.sIx ws.length 0 lo)).same g4.sm
    have hr3 : RepL K (upd G3 p (.lst (cutV ws lo hi))) (cutV ws lo hi) (cutD ds lo hi) := by
      have e : cutD ds lo hi = (ds.drop (HT.sIx ws.length 0 lo)).take (HT.sIx ws.length ws.length hi - HT.sIx ws.length 0 lo) := by unfold cutD; rw [hr.1]
      rw [e]
      exact hr2
    exact q _ _ (((g1.trans g2).trans g3).trans g4) (.l upd_same hr3.1 hr3.2)
/-- in, not in: flat items -/
def flatD : DV → Bool
  | .n => true
  | .b _ => true
  | .i _ => true
  | .s _ => true
  | _ => false
def eqF : DV → DV → Bool
  | .n, .n => true
  | .b a, .b b => a == b
  | .b a, .i b => (if a then 1 else 0) == b
  | .i a, .b b => a == (if b then 1 else 0)
  | .i a, .i b => a == b
  | .s a, .s b => a == b
  | _, _ => false
def inD (x : DV) (xs : List DV) : Bool := xs.any fun y => eqF y x
theorem flat_of {G : Hp} {v : V} (r : Rep K G v d) (h : flatD d = true) : flatV v = true := by cases r <;> first | rfl | cases h
theorem eqV_of {G : Hp} {v w : V} (r : Rep K G v a) (r2 : Rep K G w b) (h1 : flatD a = true) (h2 : flatD b = true) : eqV v w = eqF a b := by cases r <;> first | (cases h1; done) | (cases r2 <;> first | rfl | cases h2)
theorem RepL.flats {G : Hp} {vs : List V} (h : RepL K G vs ds) (hf : ds.all flatD = true) : vs.all flatV = true := by
  rw [List.all_eq_true] at hf ⊢
  intro v hv
  obtain ⟨i, hi, e⟩ := List.mem_iff_getElem.mp hv
  have hd : i < ds.length := by rw [← h.1]; exact hi
  exact flat_of (h.2 i v ds[i] (by rw [List.getElem?_eq_getElem hi, e]) (List.getElem?_eq_getElem hd)) (hf _ (List.getElem_mem hd))
theorem RepL.inV {G : Hp} {x : V} (rx : Rep K G x d) (h1 : flatD d = true) : ∀ {ds : List DV} {vs : List V}, RepL K G vs ds → ds.all flatD = true → L2.inV x vs = inD d ds
  | [], vs, h, _ => by
    have := h.unnil
    subst this
    rfl
  | e :: ds, vs, h, hf => by
    obtain ⟨v, ws, rfl, r, t⟩ := h.uncons
    rw [List.all_cons, Bool.and_eq_true] at hf
    show (eqV v x || L2.inV x ws) = (eqF e d || inD d ds)
    rw [eqV_of r rx hf.1 h1, RepL.inV rx h1 t hf.2]
theorem EvD.inL (ha : EvD K ta ss a) (hb : EvD K tb ss (.l ds)) (h1 : flatD a = true) (h2 : ds.all flatD = true) {neg : Bool} : EvD K (tOp (rIn K neg) ta tb) ss (.b (if neg then !inD a ds else inD a ds)) :=
  .op ha hb fun G F x y dj gG gF rx ry Q q => by
    obtain ⟨p, ws, rfl, hp, hr⟩ := ry.l_inv
    refine ⟨p, ws, rfl, .inl (.of (joi_l hp)), flat_of rx h1, hr.flats h2, ?_⟩
    rw [hr.inV rx h1 h2]
    exact q _ G (.refl dj gG gF) (.b _)
theorem EvD.inT (ha : EvD K ta ss a) (hb : EvD K tb ss (.t ds)) (h1 : flatD a = true) (h2 : ds.all flatD = true) {neg : Bool} : EvD K (tOp (rIn K neg) ta tb) ss (.b (if neg then !inD a ds else inD a ds)) :=
  .op ha hb fun G F x y dj gG gF rx ry Q q => by
    obtain ⟨p, ws, rfl, hp, hr⟩ := ry.t_inv
    refine ⟨p, ws, rfl, .inr (sqt_same same_joi hp), flat_of rx h1, hr.flats h2, ?_⟩
    rw [hr.inV rx h1 h2]
    exact q _ G (.refl dj gG gF) (.b _)
/-- a list of ints == [], != [] -/
theorem dpAll_ints {H : Hp} : ∀ xs : List Int, DpAll K H (xs.map V.int) (xs.map PyData.int)
  | [] => .nil
  | x :: xs => .cons (.int x) (dpAll_ints xs)
theorem dp_ints {G F : Hp} {x : V} {xs : List Int} (r : Rep K G x (.l (xs.map DV.i))) : Dp K (joi G F) x (.list (xs.map PyData.int)) := by
  obtain ⟨a, ws, rfl, ha, hr⟩ := r.l_inv
  have e : ws = xs.map V.int := by
    refine List.ext_getElem? fun i => ?_
    by_cases hi : i < ws.length
    · obtain ⟨d', hd⟩ : ∃ d', (xs.map DV.i)[i]? = some d' := ⟨_, List.getElem?_eq_getElem (by rw [← hr.1]; exact hi)⟩
      have z := hr.2 i ws[i] d' (List.getElem?_eq_getElem hi) hd
      rw [List.getElem?_map] at hd ⊢
      cases e : xs[i]? with
      | none => rw [e] at hd; cases hd
      | some j =>
        rw [e] at hd
        cases hd
        rw [List.getElem?_eq_getElem hi, z.int_inv]
        rfl
    · have h1 := hr.1
      simp only [List.length_map] at h1
      rw [List.getElem?_eq_none (by omega), List.getElem?_eq_none (by simp; omega)]
  subst e
  exact .lst (.of (joi_l ha)) (dpAll_ints xs)

/-! ### methods of lists -/
theorem RnF.append {p : Addr} {vs : List V} {tx te : TE} (hx : EvD K tx ss (.m p)) (he : EvD K te ss d) (hF : F p = some (.lst vs)) (hz : vs.length < sizeLine) (hn : ∀ v, (∀ G, Rep K G v (.m p) → True) → (∃ G, Rep K G v d) → N ss (upd F p (.lst (vs ++ [v])))) :
    RnF K (tDrop (tBM K "list" rAppend tx (tCons te tNil))) ss F N R := fun σ G o D nx rt =>
  hx.at o fun x G1 g1 rx => by
    obtain rfl := rx.m_inv
    have gp : ∀ {G'}, Disj G' F → G' p = none := fun {G'} dj => (dj p).resolve_right fun z => by rw [hF] at z; cases z
    have hj : ∀ {G'}, Disj G' F → joi G' F p = some (.lst vs) := fun {G'} dj => by rw [joi_r (gp dj)]; exact hF
    refine ⟨.inl ⟨rfl, _, .inl (.inl (hj g1.dj))⟩, he.at (o.gr g1) fun v G2 g2 rv => ?_⟩
    refine ⟨p, vs, v, rfl, rfl, hj g2.dj, hz, ?_⟩
    rw [joi_put (gp g2.dj)]
    exact nx σ ss G2 _ ((g1.trans g2).trans (.put g2.dj g2.gG g2.gF hF)) (o.gr (g1.trans g2)).sg (hn v (fun _ _ => True.intro) ⟨G2, rv⟩)

/-! ### loops -/
theorem RnF.forR {i : Nat} {n : Nat} {lo : Int} (Iv : Nat → List (Option DV) → Hp → Prop) (h0 : Iv 0 ss F) (hs : ∀ k ss' F', k < n → Iv k ss' F' → RnF K ts (ss'.set i (some (.i (lo + (k : Nat))))) F' (Iv (k + 1)) R) (hd : ∀ ss' F', Iv n ss' F' → N ss' F') {σ : L2.St} {G : Hp} (o : Okk K G F σ ss) {D : Ends}
    (nx : ∀ σ' ss' G' F', Gr G G' F' → Sg K G' σ' ss' → N ss' F' → D.nx σ' (joi G' F')) (rt : Goes K G R D.rt) :
    ∃ W : Nat → Nat → L2.St → Hp → Prop, (∃ m, W 0 m σ (joi G F)) ∧ ∀ i' m σ H, W i' m σ H →
      ((Itr lo n).stop i' H ∧ D.nx σ H) ∨ ((Itr lo n).go i' H ∧ ∃ N : L2.St → Hp → Prop, (∀ σ' H', N σ' H' → ∃ m', m' < m ∧ W (i' + 1) m' σ' H') ∧ ∀ x H', (Itr lo n).yld i' H x H' → gName i x σ H' fun σ2 H2 => ts { D with nx := N, ct := N, bk := D.nx } σ2 H2) := by
  refine for_range (fun k σ' H' => ∃ ss' G' F', Gr G G' F' ∧ Sg K G' σ' ss' ∧ H' = joi G' F' ∧ Iv k ss' F') ⟨ss, G, F, o.refl, o.sg, rfl, h0⟩ (fun k σ' H' hk ⟨ss', G', F', g, s, e, p⟩ => ?_) fun σ' H' ⟨ss', G', F', g, s, e, p⟩ => ?_
  · subst e
    exact hs k ss' F' hk p _ G' ⟨s.set (.i _), g.dj, g.gG, g.gF⟩ _ (fun σ2 ss2 G2 F2 g2 s2 p2 => ⟨ss2, G2, F2, g.trans g2, s2, rfl, p2⟩) (rt.gr g)
  · subst e
    exact nx σ' ss' G' F' g s (hd _ _ p)
theorem RnF.forRange1 {i : Nat} (h : EvF K te ss F fun d F1 => ∃ m : Int, d = .i m ∧ -(2 ^ 62) ≤ m ∧ m < 2 ^ 62 ∧ ∃ Iv : Nat → List (Option DV) → Hp → Prop, Iv 0 ss F1 ∧ (∀ k ss' F', k < m.toNat → Iv k ss' F' → RnF K ts (ss'.set i (some (.i (0 + (k : Nat))))) F' (Iv (k + 1)) R) ∧ ∀ ss' F', Iv m.toNat ss' F' → N ss' F') :
    RnF K (tFor (iRng1 (tCons te tNil)) (gName i) ts) ss F N R := fun σ G o D nx rt => h σ G o _ fun v d G1 F1 g r ⟨m, e, h1, h2, Iv, h0, hs, hd⟩ => by
  subst e
  obtain rfl := r.int_inv
  exact ⟨m, rfl, h1, h2, RnF.forR Iv h0 hs hd (o.gr g) (fun σ2 ss2 G2 F2 g2 s2 p2 => nx σ2 ss2 G2 F2 (g.trans g2) s2 p2) (rt.gr g)⟩
theorem RnF.forL {i : Nat} (Iv : Nat → List (Option DV) → Hp → Prop) (h : EvF K te ss F fun d F1 => d = .l ds ∧ Iv 0 ss F1) (hs : ∀ k d ss' F', ds[k]? = some d → Iv k ss' F' → RnF K ts (ss'.set i (some d)) F' (Iv (k + 1)) R) (hd : ∀ ss' F', Iv ds.length ss' F' → N ss' F') :
    RnF K (tFor (iList K te) (gName i) ts) ss F N R := fun σ G o D nx rt => h σ G o _ fun v d G1 F1 g r ⟨e, h0⟩ => by
  subst e
  obtain ⟨a, vs, rfl, ha, hr⟩ := r.l_inv
  refine ⟨a, rfl, ⟨vs, .of (joi_l ha)⟩, ?_⟩
  refine for_list (xs := vs) (fun k σ' H' => ∃ ss' G' F', Gr G1 G' F' ∧ Sg K G' σ' ss' ∧ H' = joi G' F' ∧ Iv k ss' F') ⟨ss, G1, F1, (o.gr g).refl, (o.gr g).sg, rfl, h0⟩ (fun k σ' H' hk ⟨ss', G', F', g2, s, e, p⟩ => ?_) (fun k x σ' H' hx ⟨ss', G', F', g2, s, e, p⟩ => ?_) fun σ' H' ⟨ss', G', F', g2, s, e, p⟩ => ?_
  · subst e
    exact .of (joi_l (g2.sm _ _ ha))
  · subst e
    have hk : k < vs.length := (List.getElem?_eq_some_iff.mp hx).1
    obtain ⟨d, hd'⟩ : ∃ d, ds[k]? = some d := ⟨_, List.getElem?_eq_getElem (by rw [← hr.1]; exact hk)⟩
    exact hs k d ss' F' hd' p _ G' ⟨s.set ((hr.2 k x d hx hd').same g2.sm), g2.dj, g2.gG, g2.gF⟩ _ (fun σ2 ss2 G2 F2 g3 s2 p2 => ⟨ss2, G2, F2, g2.trans g3, s2, rfl, p2⟩) ((rt.gr g).gr g2)
  · subst e
    exact nx σ' ss' G' F' (g.trans g2) s (hd _ _ (by rw [← hr.1]; exact p))

/-! ### comprehensions -/
def wipeD (ss : List (Option DV)) : List Nat → List (Option DV)
  | [] => ss
  | v :: vs => (wipeD ss vs).set v none
theorem sg_wipe {G : Hp} {σ : L2.St} (h : Sg K G σ ss) : ∀ vs : List Nat, Sg K G (wipe σ vs) (wipeD ss vs)
  | [] => h
  | v :: vs => (sg_wipe h vs).unset
theorem wipe_set1 {σ : L2.St} {i : Nat} {v : V} : wipe ((wipe σ [i]).set i (some v)) [i] = wipe σ [i] := by
  show (((σ.set i none).set i (some v)).set i none) = σ.set i none
  rw [List.set_set, List.set_set]
/-- the new list at D, filled turn by turn -/
structure Fill (K : PySem.W.Frag) (G : Hp) (F : Hp) (D : Addr) (acc : List DV) (H : Hp) : Prop where
  ex : ∃ G' vs, Gr G G' (upd F D (.lst vs)) ∧ RepL K G' vs acc ∧ H = joi G' (upd F D (.lst vs)) ∧ vs.length = acc.length
theorem EvD.lcR {i : Nat} {lo hi : Int} {p : Int → Bool} {f : Int → DV} {wi : TI} (hw : ∀ σ G F, Okk K G F σ ss → ∀ R : It → Hp → Prop, (∀ G', Gr G G' F → R (Itr lo (hi - lo).toNat) (joi G' F)) → wi σ (joi G F) R)
    (ht : ∀ k, lo ≤ k → k < hi → EvB K tt ((ss.set i none).set i (some (.i k))) (p k)) (he : ∀ k, lo ≤ k → k < hi → p k = true → EvD K te ((ss.set i none).set i (some (.i k))) (f k)) (hz : (hi - lo).toNat ≤ sizeLine) :
    EvD K (tLc wi (gName i) tt te [i]) ss (.l (((List.range (hi - lo).toNat).filter fun k => p (lo + (k : Nat))).map fun k => f (lo + (k : Nat)))) := .mk fun σ G F o Q q => hw σ G F o _ fun G1 g1 D hD => by
  have hn := joi_none hD
  have base : Okk K G1 F σ ss := o.gr g1
  refine lc_range (fun k H => Fill K G1 F D (((List.range k).filter fun k => p (lo + (k : Nat))).map fun k => f (lo + (k : Nat))) H) ⟨G1, [], .newF g1.dj g1.gG g1.gF hD, .nil, joi_put hn.1, rfl⟩ (fun k H hk ⟨⟨G', vs, g2, r, e, hl⟩⟩ => ?_) fun H ⟨⟨G', vs, g2, r, e, hl⟩⟩ => ?_
  · subst e
    refine ⟨wipe_set1, ?_⟩
    have h1 : lo ≤ lo + (k : Nat) := by omega
    have h2 : lo + (k : Nat) < hi := by omega
    have ok : Okk K G' (upd F D (.lst vs)) ((wipe σ [i]).set i (some (.int (lo + (k : Nat))))) ((ss.set i none).set i (some (.i (lo + (k : Nat))))) := ⟨((sg_wipe base.sg [i]).same g2.sm).set (.i _), g2.dj, g2.gG, g2.gF⟩
    refine (ht _ h1 h2).at ok fun G3 g3 => ?_
    have lenf : ((List.range k).filter fun k => p (lo + (k : Nat))).length ≤ k := by
      have := List.length_filter_le (fun k : Nat => p (lo + (k : Nat))) (List.range k)
      simpa using this
    have hG3 : G3 D = none := (g3.dj D).resolve_right fun z => by rw [upd_same] at z; cases z
    cases hp : p (lo + (k : Nat)) with
    | true =>
      rw [if_pos rfl]
      refine (he _ h1 h2 hp).at (ok.gr g3) fun y G4 g4 ry => ?_
      have hG4 : G4 D = none := (g4.dj D).resolve_right fun z => by rw [upd_same] at z; cases z
      refine ⟨vs, by rw [joi_r hG4, upd_same], ?_, ?_⟩
      · rw [hl, List.length_map]
        omega
      · rw [joi_put hG4]
        have eu : upd (upd F D (.lst vs)) D (.lst (vs ++ [y])) = upd F D (.lst (vs ++ [y])) := by
          funext b
          by_cases hb : b = D
          · subst hb; rw [upd_same, upd_same]
          · rw [upd_ne hb, upd_ne hb, upd_ne hb]
        rw [eu]
        have g5 : Gr G4 G4 (upd (upd F D (.lst vs)) D (.lst (vs ++ [y]))) := .put g4.dj g4.gG g4.gF upd_same
        rw [eu] at g5
        have ea : (((List.range (k + 1)).filter fun k => p (lo + (k : Nat))).map fun k => f (lo + (k : Nat))) = (((List.range k).filter fun k => p (lo + (k : Nat))).map fun k => f (lo + (k : Nat))) ++ [f (lo + (k : Nat))] := by
          rw [List.range_succ, List.filter_append, List.map_append]
          congr 1
          simp [hp]
        rw [ea]
        exact ⟨G4, vs ++ [y], ((g2.trans g3).trans g4).trans g5, ((r.same g3.sm).same g4.sm).append (.cons ry .nil), rfl, by simp [hl]⟩
    | false =>
      rw [if_neg (by simp)]
      have ea : (((List.range (k + 1)).filter fun k => p (lo + (k : Nat))).map fun k => f (lo + (k : Nat))) = (((List.range k).filter fun k => p (lo + (k : Nat))).map fun k => f (lo + (k : Nat))) := by
        rw [List.range_succ, List.filter_append]
        simp [hp]
      rw [ea]
      exact ⟨G3, vs, g2.trans g3, r.same g3.sm, rfl, hl⟩
  · subst e
    have hG : G' D = none := (g2.dj D).resolve_right fun z => by rw [upd_same] at z; cases z
    rw [joi_ice hG]
    have g3 : Gr G' (upd G' D (.lst vs)) F := .ice g2.dj g2.gG o.gF hn.2
    exact q _ _ ((g1.trans ⟨g2.sm, g2.dj, g2.gG, g2.gF⟩).trans g3) (.l upd_same r.1 (r.same g3.sm).2)
theorem wi_range1 {hi : Int} (h : EvD K te ss (.i hi)) (h1 : -(2 ^ 62) ≤ hi) (h2 : hi < 2 ^ 62) : ∀ σ G F, Okk K G F σ ss → ∀ R : It → Hp → Prop, (∀ G', Gr G G' F → R (Itr 0 (hi - 0).toNat) (joi G' F)) → iRng1 (tCons te tNil) σ (joi G F) R := fun σ G F o R q => h.at o fun v G1 g1 rv => ⟨hi, by rw [rv.int_inv], h1, h2, by
  have := q G1 g1
  rwa [Int.sub_zero] at this⟩
theorem wi_range2 {lo hi : Int} (ha : EvD K ta ss (.i lo)) (hb : EvD K tb ss (.i hi)) (h1 : -(2 ^ 62) ≤ lo) (h2 : lo < 2 ^ 62) (h3 : -(2 ^ 62) ≤ hi) (h4 : hi < 2 ^ 62) : ∀ σ G F, Okk K G F σ ss → ∀ R : It → Hp → Prop, (∀ G', Gr G G' F → R (Itr lo (hi - lo).toNat) (joi G' F)) → iRng2 (tCons ta (tCons tb tNil)) σ (joi G F) R := fun σ G F o R q =>
  ha.at o fun v G1 g1 rv => hb.at (o.gr g1) fun u G2 g2 ru => ⟨lo, hi, by rw [rv.int_inv, ru.int_inv], ⟨h1, h2, h3, h4⟩, q G2 (g1.trans g2)⟩
theorem EvB.yes : EvB K tYes ss true := fun F σ G o Q q => q true G F o.refl ⟨rfl, rfl⟩
/-- over a list -/
theorem EvD.lcL {i : Nat} {p : DV → Bool} {f : DV → DV} (hl : EvD K tl ss (.l es)) (ht : ∀ d, d ∈ es → EvB K tt ((ss.set i none).set i (some d)) (p d)) (he : ∀ d, d ∈ es → p d = true → EvD K te ((ss.set i none).set i (some d)) (f d)) (hz : es.length ≤ sizeLine) :
    EvD K (tLc (iList K tl) (gName i) tt te [i]) ss (.l ((es.filter p).map f)) := .mk fun σ G F o Q q => hl.at o fun x G1 g1 rx => by
  obtain ⟨a, vs0, rfl, ha, hr⟩ := rx.l_inv
  refine ⟨a, rfl, ⟨vs0, .of (joi_l ha)⟩, fun D hD => ?_⟩
  have hn := joi_none hD
  have base : Okk K G1 F σ ss := o.gr g1
  refine lc_list (xs := vs0) (fun k H => Fill K G1 F D (((es.take k).filter p).map f) H) ⟨G1, [], .newF g1.dj g1.gG g1.gF hD, .nil, joi_put hn.1, rfl⟩ (fun k H hk ⟨⟨G', vs, g2, r, e, hl⟩⟩ => ?_) (fun k x H hx ⟨⟨G', vs, g2, r, e, hl⟩⟩ => ?_) fun H ⟨⟨G', vs, g2, r, e, hl⟩⟩ => ?_
  · subst e
    exact .of (joi_l (g2.sm _ _ ha))
  · subst e
    refine ⟨wipe_set1, ?_⟩
    have hk : k < vs0.length := (List.getElem?_eq_some_iff.mp hx).1
    have hke : k < es.length := by rw [← hr.1]; exact hk
    have hd : es[k]? = some es[k] := List.getElem?_eq_getElem hke
    have hm : es[k] ∈ es := List.getElem_mem hke
    have ok : Okk K G' (upd F D (.lst vs)) ((wipe σ [i]).set i (some x)) ((ss.set i none).set i (some es[k])) := ⟨((sg_wipe base.sg [i]).same g2.sm).set ((hr.2 k x _ hx hd).same g2.sm), g2.dj, g2.gG, g2.gF⟩
    refine (ht _ hm).at ok fun G3 g3 => ?_
    have lenf : ((es.take k).filter p).length ≤ k := by
      have := List.length_filter_le p (es.take k)
      simp at this
      omega
    have et : es.take (k + 1) = es.take k ++ [es[k]] := by rw [List.take_succ, hd]; rfl
    cases hp : p es[k] with
    | true =>
      rw [if_pos rfl]
      refine (he _ hm hp).at (ok.gr g3) fun y G4 g4 ry => ?_
      have hG4 : G4 D = none := (g4.dj D).resolve_right fun z => by rw [upd_same] at z; cases z
      refine ⟨vs, by rw [joi_r hG4, upd_same], ?_, ?_⟩
      · rw [hl, List.length_map]
        omega
      · rw [joi_put hG4]
        have eu : upd (upd F D (.lst vs)) D (.lst (vs ++ [y])) = upd F D (.lst (vs ++ [y])) := by
          funext b
          by_cases hb : b = D
          · subst hb; rw [upd_same, upd_same]
          · rw [upd_ne hb, upd_ne hb, upd_ne hb]
        rw [eu]
        have g5 : Gr G4 G4 (upd (upd F D (.lst vs)) D (.lst (vs ++ [y]))) := .put g4.dj g4.gG g4.gF upd_same
        rw [eu] at g5
        have ea : (((es.take (k + 1)).filter p).map f) = (((es.take k).filter p).map f) ++ [f es[k]] := by
          rw [et, List.filter_append, List.map_append]
          congr 1
          simp [hp]
        rw [ea]
        exact ⟨G4, vs ++ [y], ((g2.trans g3).trans g4).trans g5, ((r.same g3.sm).same g4.sm).append (.cons ry .nil), rfl, by simp [hl]⟩
    | false =>
      rw [if_neg (by simp)]
      have ea : (((es.take (k + 1)).filter p).map f) = (((es.take k).filter p).map f) := by
        rw [et, List.filter_append]
        simp [hp]
      rw [ea]
      exact ⟨G3, vs, g2.trans g3, r.same g3.sm, rfl, hl⟩
  · subst e
    have hG : G' D = none := (g2.dj D).resolve_right fun z => by rw [upd_same] at z; cases z
    rw [joi_ice hG]
    have g3 : Gr G' (upd G' D (.lst vs)) F := .ice g2.dj g2.gG o.gF hn.2
    have el : es.take vs0.length = es := by rw [hr.1, List.take_length]
    rw [el] at r
    exact q _ _ ((g1.trans ⟨g2.sm, g2.dj, g2.gG, g2.gF⟩).trans g3) (.l upd_same r.1 (r.same g3.sm).2)
end
end Lay
end
section
set_option Elab.async false
set_option linter.all false
set_option autoImplicit false
set_option maxRecDepth 100000
set_option maxHeartbeats 4000000
/-! own layer H: the Hook -/
namespace Lay
open PySem PySem.Spec PyProof.Rows L2
open PyProof
open He (ba relB relB_ok kwdB kwdB_ok eqO eqO_ok)

/-! ### a def -/
structure DefL where
  adr : PySem.W.Frag → Addr
  name : Str
  qual : Str
  params : Arguments
  body : List Stmt
  scope : Scope
  kwd : List (Str × V) := []
  cell : Option Str := none
abbrev FnC : Type := Option (Str × Str × Arguments × FuncBody × Scope × Addr × List Str × Addr)
def fnC (K : PySem.W.Frag) (a : Addr) : FnC := match K.lookup a with
  | some ⟨_, _, .func fd, _⟩ => some (fd.name, fd.qualname, fd.params, fd.body, fd.scope, fd.globals, fd.closure.map (·.1), fd.builtins)
  | _ => none
def DefL.val (d : DefL) : FnC := some (d.name, d.qual, d.params, .stmts d.body, d.scope, mainGlobals, (match d.cell with
  | some _ => ["__class__"]
  | none => []), builtinsNs)
def noneV : Value → Bool
  | .none => true
  | _ => false
theorem noneV_ok {v : Value} (h : noneV v = true) : v = .none := by cases v <;> first | rfl | cases h
/-- its defaults, its code object -/
def DefL.ok1 (K : PySem.W.Frag) (d : DefL) : Bool := PySem.W.keepIn K (.ref (d.adr K)) && (match K.lookup (d.adr K) with
  | some ⟨_, _, .func fd, _⟩ => PySem.W.codeIn K fd.code d.qual && (noneV fd.defaults && kwdB K fd.kwdefaults d.kwd)
  | _ => false)
/-- its cell -/
def cellB (K : PySem.W.Frag) (f : Addr) (D : Addr) : Bool := match K.lookup f with
  | some ⟨_, _, .func fd, _⟩ => noneV fd.kwdefaults && (fd.annotations.isNone && (match fd.closure with
    | (_, cc) :: _ => (match K.lookup cc with
      | some ⟨_, _, .cell (some (.ref E)), _⟩ => decide (E = D)
      | _ => false)
    | [] => false))
  | _ => false
/-- its file -/
def fileB (K : PySem.W.Frag) (f : Addr) (file : Str) : Bool := match K.lookup f with
  | some ⟨_, _, .func fd, _⟩ => (match fd.code with
    | .ref c => (match K.lookup c with
      | some ⟨_, _, .fields vs, _⟩ => (match (vs[2]? : Option Value) with
        | some (Value.str z _) => file == z
        | _ => false)
      | _ => false)
    | _ => false)
  | _ => false
theorem map_fst_nil {l : List (Str × Addr)} (h : l.map (·.1) = []) : l = [] := by cases l with
  | nil => rfl
  | cons a r => cases h
theorem map_fst_one {l : List (Str × Addr)} {x : Str} (h : l.map (·.1) = [x]) : ∃ c, l = [(x, c)] := by
  cases l with
  | nil => cases h
  | cons a r =>
    obtain ⟨y, c⟩ := a
    simp only [List.map_cons, List.cons.injEq] at h
    obtain ⟨h1, h2⟩ := h
    have := map_fst_nil h2
    subst this h1
    exact ⟨c, rfl⟩
theorem DefL.funD {K : PySem.W.Frag} {d : DefL} (hc : d.cell = none) (e : fnC K (d.adr K) = d.val) (c : d.ok1 K = true) : ∃ fd, FunD K d.name d.qual d.params d.body d.scope [] d.kwd (d.adr K) fd := by
  obtain ⟨kp, c2⟩ := ba c
  unfold fnC at e
  unfold DefL.val at e
  rw [hc] at e
  cases q : K.lookup (d.adr K) with
  | none =>
    rw [q] at c2
    cases c2
  | some o =>
    obtain ⟨oc, od, dt, osl⟩ := o
    rw [q] at c2 e
    cases dt with
    | func fd =>
      obtain ⟨n1, n2, n3, n4, n5, n6, n7, n8, n9, n10, n11, n12, n13, n14, n15⟩ := fd
      have e2 : (some (n1, n2, n3, n4, n5, n6, n7.map (·.1), n15) : FnC) = some (d.name, d.qual, d.params, .stmts d.body, d.scope, mainGlobals, [], builtinsNs) := e
      simp only [Option.some.injEq, Prod.mk.injEq] at e2
      obtain ⟨h1, h2, h3, h4, h5, h6, h7, h8⟩ := e2
      have h7 := map_fst_nil h7
      subst h1 h2 h3 h4 h5 h6 h7 h8
      have c3 : (PySem.W.codeIn K n13 d.qual && (noneV n8 && kwdB K n9 d.kwd)) = true := c2
      obtain ⟨k1, k2⟩ := ba c3
      obtain ⟨k3, k4⟩ := ba k2
      have z := noneV_ok k3
      subst z
      exact ⟨_, ⟨oc, od, .none, n9, n10, n11, n12, n13, n14, osl, rfl, q, k1, .inl ⟨rfl, rfl⟩, kwdB_ok k4⟩, kp⟩
    | _ => cases c2
theorem codeIn_ref {K : PySem.W.Frag} {cd : Value} {q : Str} (h : PySem.W.codeIn K cd q = true) : ∃ c, cd = .ref c := by
  cases cd with
  | ref c => exact ⟨c, rfl⟩
  | _ => cases h
theorem DefL.funC {K : PySem.W.Frag} {d : DefL} {y : Str} {D : Addr} (hc : d.cell = some y) (e : fnC K (d.adr K) = d.val) (c : d.ok1 K = true) (cb : cellB K (d.adr K) D = true) : FunC K d.name d.qual d.params d.body d.scope D (d.adr K) := by
  obtain ⟨kp, c2⟩ := ba c
  unfold fnC at e
  unfold DefL.val at e
  unfold cellB at cb
  rw [hc] at e
  cases q : K.lookup (d.adr K) with
  | none =>
    rw [q] at c2
    cases c2
  | some o =>
    obtain ⟨oc, od, dt, osl⟩ := o
    rw [q] at c2 e cb
    cases dt with
    | func fd =>
      obtain ⟨n1, n2, n3, n4, n5, n6, n7, n8, n9, n10, n11, n12, n13, n14, n15⟩ := fd
      have e2 : (some (n1, n2, n3, n4, n5, n6, n7.map (·.1), n15) : FnC) = (some (d.name, d.qual, d.params, FuncBody.stmts d.body, d.scope, mainGlobals, ["__class__"], builtinsNs) : FnC) := e
      simp only [Option.some.injEq, Prod.mk.injEq] at e2
      obtain ⟨h1, h2, h3, h4, h5, h6, h7, h8⟩ := e2
      obtain ⟨cc, h7⟩ := map_fst_one h7
      subst h1 h2 h3 h4 h5 h6 h7 h8
      have c3 : (PySem.W.codeIn K n13 d.qual && (noneV n8 && kwdB K n9 d.kwd)) = true := c2
      obtain ⟨k1, k2⟩ := ba c3
      obtain ⟨k3, k4⟩ := ba k2
      have z := noneV_ok k3
      subst z
      have cb2 : (noneV n9 && (n12.isNone && (match K.lookup cc with
        | some ⟨_, _, .cell (some (.ref E)), _⟩ => decide (E = D)
        | _ => false))) = true := cb
      obtain ⟨b1, b2⟩ := ba cb2
      obtain ⟨b3, b4⟩ := ba b2
      have z := noneV_ok b1
      subst z
      have z := Option.isNone_iff_eq_none.mp b3
      subst z
      obtain ⟨c, z⟩ := codeIn_ref k1
      subst z
      cases q2 : K.lookup cc with
      | none => rw [q2] at b4; cases b4
      | some o2 =>
        obtain ⟨oc2, od2, dt2, osl2⟩ := o2
        rw [q2] at b4
        cases dt2 with
        | cell v =>
          cases v with
          | none => cases b4
          | some u =>
            cases u with
            | ref E =>
              have z : E = D := of_decide_eq_true b4
              subst z
              exact ⟨oc, n10, n11, n14, od, c, cc, osl, oc2, od2, osl2, q, k1, q2⟩
            | _ => cases b4
        | _ => cases b4
    | _ => cases c2
theorem supC_code {K : PySem.W.Frag} {f : Addr} {file : Str} (h : fileB K f file = true) (oc : Value) (od : Option Addr) (fd : FuncData) (osl : Array (Option Value)) (c : Addr) (lk : K.lookup f = some ⟨oc, od, .func fd, osl⟩) (hc : fd.code = .ref c) :
    ∃ (ccl : Value) (cdd : Option Addr) (vs : Array Value) (ccs : Array (Option Value)) (z : Str) (tf : Tok), K.lookup c = some ⟨ccl, cdd, .fields vs, ccs⟩ ∧ vs[2]? = some (.str z tf) ∧ (file == z) = true := by
  unfold fileB at h
  rw [lk] at h
  have h : (match fd.code with
    | .ref c => (match K.lookup c with
      | some ⟨_, _, .fields vs, _⟩ => (match (vs[2]? : Option Value) with
        | some (Value.str z _) => file == z
        | _ => false)
      | _ => false)
    | _ => false) = true := h
  rw [hc] at h
  have h : (match K.lookup c with
      | some ⟨_, _, .fields vs, _⟩ => (match (vs[2]? : Option Value) with
        | some (Value.str z _) => file == z
        | _ => false)
      | _ => false) = true := h
  cases q : K.lookup c with
  | none => rw [q] at h; cases h
  | some o =>
    obtain ⟨oc2, od2, dt2, osl2⟩ := o
    rw [q] at h
    cases dt2 with
    | fields vs =>
      have h : (match (vs[2]? : Option Value) with
        | some (Value.str z _) => file == z
        | _ => false) = true := h
      cases e : vs[2]? with
      | none => rw [e] at h; cases h
      | some v =>
        rw [e] at h
        cases v with
        | str z t => exact ⟨_, _, vs, _, z, t, rfl, e, h⟩
        | _ => cases h
    | _ => cases h

/-! ### paths -/
abbrev gA (x : Str) : PySem.W.Frag → Addr := fun K => He.ga K x
abbrev mA (C m : Str) : PySem.W.Frag → Addr := fun K => He.ma K (He.ga K C) m
def recA (K : PySem.W.Frag) (p : Addr) (t : String) : Addr := match PySem.W.recIn K p t with
  | some (.ref g :: _) => g
  | _ => 0
/-- a property's getter -/
abbrev pA (C m : Str) : PySem.W.Frag → Addr := fun K => recA K (He.ma K (He.ga K C) m) "property"
/-- a static method's def -/
abbrev sA (C m : Str) : PySem.W.Frag → Addr := fun K => recA K (He.ma K (He.ga K C) m) "staticmethod"
theorem recA_ok {K : PySem.W.Frag} {p : Addr} {t : String} (h : (match PySem.W.recIn K p t with
  | some (.ref _ :: _) => true
  | _ => false) = true) : ∃ rest, PySem.W.recIn K p t = some (.ref (recA K p t) :: rest) := by
  unfold recA
  cases e : PySem.W.recIn K p t with
  | none => rw [e] at h; cases h
  | some l =>
    rw [e] at h
    cases l with
    | nil => cases h
    | cons v r =>
      cases v with
      | ref g => exact ⟨r, rfl⟩
      | _ => cases h

/-! ### facts -/
def eqB (a b : Option Bool) : Bool := decide (a = b)
def propB (C m : Str) (K : PySem.W.Frag) : Bool := eqO (PySem.W.findIn K (.ref (He.ga K C)) m) (some (some (.ref (He.ma K (He.ga K C) m)))) && (eqO (PySem.W.specialIn K (.ref (He.ma K (He.ga K C) m)) "__get__") (some (some (.builtin "property.__get__"))) &&
  (eqB (PySem.W.takesIn K (.ref (He.ma K (He.ga K C) m))) (some true) && (match PySem.W.recIn K (He.ma K (He.ga K C) m) "property" with
  | some (.ref _ :: _) => true
  | _ => false)))
theorem propB_ok {K : PySem.W.Frag} {C m : Str} (h : propB C m K = true) : PropOf K (He.ga K C) m (He.ma K (He.ga K C) m) (pA C m K) := by
  obtain ⟨h1, h⟩ := ba h
  obtain ⟨h2, h⟩ := ba h
  obtain ⟨h3, h4⟩ := ba h
  exact ⟨eqO_ok h1, eqO_ok h2, of_decide_eq_true h3, recA_ok h4⟩
def statB (C m : Str) (K : PySem.W.Frag) : Bool := PySem.W.readsIn K (He.ga K C) (.type "type") && (eqO (PySem.W.specialIn K (.ref (He.ga K C)) "__getattribute__") (some (some (.builtin "type.__getattribute__"))) &&
  ((match PySem.W.findCls K (.ref (He.ga K C)) (.type "type") m with
  | some (.get (.builtin b) (.ref p) .none (.ref D)) => decide (b = "staticmethod.__get__") && (decide (p = He.ma K (He.ga K C) m) && decide (D = He.ga K C))
  | _ => false) && ((match PySem.W.recIn K (He.ma K (He.ga K C) m) "staticmethod" with
  | some (.ref _ :: _) => true
  | _ => false) && PySem.W.keepIn K (.ref (sA C m K)))))
theorem statB_ok {K : PySem.W.Frag} {C m : Str} (h : statB C m K = true) : Stat K (He.ga K C) (.type "type") m (He.ma K (He.ga K C) m) (sA C m K) := by
  obtain ⟨h1, h⟩ := ba h
  obtain ⟨h2, h⟩ := ba h
  obtain ⟨h3, h⟩ := ba h
  obtain ⟨h4, h5⟩ := ba h
  refine ⟨h1, eqO_ok h2, ?_, recA_ok h4, h5⟩
  split at h3
  · rename_i b p D e
    obtain ⟨k1, h3⟩ := ba h3
    obtain ⟨k2, k3⟩ := ba h3
    rw [e, of_decide_eq_true k1, of_decide_eq_true k2, of_decide_eq_true k3]
  · cases h3
/-- a class's constant read off the class -/
def valB (C f : Str) (v : V) (K : PySem.W.Frag) : Bool := PySem.W.readsIn K (He.ga K C) (.type "type") && (eqO (PySem.W.specialIn K (.ref (He.ga K C)) "__getattribute__") (some (some (.builtin "type.__getattribute__"))) &&
  (match PySem.W.findCls K (.ref (He.ga K C)) (.type "type") f with
  | some (.val u) => relB v u
  | _ => false))
theorem valB_ok {K : PySem.W.Frag} {C f : Str} {v : V} (h : valB C f v K = true) : ClX.CRead K (He.ga K C) (.type "type") ∧ ∃ u, ClX.CVal K (He.ga K C) (.type "type") f v u := by
  obtain ⟨h1, h⟩ := ba h
  obtain ⟨h2, h3⟩ := ba h
  refine ⟨⟨h1, eqO_ok h2⟩, ?_⟩
  split at h3
  · rename_i u e
    exact ⟨u, e, relB_ok h3⟩
  · cases h3
/-- a class without an own __init__ -/
def newB (C : Str) (K : PySem.W.Frag) : Bool := PySem.W.makesIn K (He.ga K C) && (eqO (PySem.W.findIn K (.ref (He.ga K C)) "__init__") (some (some (.builtin "object.__init__"))) && PySem.W.keepIn K (.ref (He.ga K C)))
/-- super().m in a def of D, called for a C: the def at (E, m) -/
def supMB (C D E m : Str) (K : PySem.W.Frag) : Bool := eqB (PySem.W.mroIn K (He.ga K C) (.ref (He.ga K D))) (some true) && (eqO (PySem.W.ks_superIn K (He.ga K C) (He.ga K D) m) (some (some (.ref (He.ma K (He.ga K E) m)))) && (decide (PySem.W.typeIn K (.ref (He.ma K (He.ga K E) m)) = some (.type "function")) && PySem.W.fnIn K (He.ma K (He.ga K E) m)))
theorem supMB_ok {K : PySem.W.Frag} {C D E m : Str} (h : supMB C D E m K = true) : SupM K (He.ga K C) (He.ga K D) m (He.ma K (He.ga K E) m) := by
  obtain ⟨h1, h⟩ := ba h
  obtain ⟨h2, h⟩ := ba h
  obtain ⟨h3, h4⟩ := ba h
  exact ⟨of_decide_eq_true h1, eqO_ok h2, of_decide_eq_true h3, h4⟩
def supIB (C D : Str) (K : PySem.W.Frag) : Bool := eqB (PySem.W.mroIn K (He.ga K C) (.ref (He.ga K D))) (some true) && (eqO (PySem.W.ks_superIn K (He.ga K C) (He.ga K D) "__init__") (some (some (.builtin "ValueError.__init__"))) && eqB (PySem.W.subIn K (.ref (He.ga K C)) (.type "ValueError")) (some true))
theorem supIB_ok {K : PySem.W.Frag} {C D : Str} (h : supIB C D K = true) : SupI K (He.ga K C) (He.ga K D) := by
  obtain ⟨h1, h⟩ := ba h
  obtain ⟨h2, h3⟩ := ba h
  exact ⟨of_decide_eq_true h1, eqO_ok h2, of_decide_eq_true h3⟩
/-- an error's class: isinstance, fields -/
def errB (C : Str) (K : PySem.W.Frag) : Bool := (PySem.W.clsIn K (He.ga K C)).isSome && (eqO (PySem.W.findIn K (.ref (He.ga K C)) "__getattribute__") (some (some (.builtin "BaseException.__getattribute__"))) && (eqO (PySem.W.findIn K (.ref (He.ga K C)) "__getattr__") (some none) &&
  (eqB (PySem.W.subIn K (.ref (He.ga K C)) (.type "BaseException")) (some true) && (PySem.W.hasDictIn K (He.ga K C) && (eqO (PySem.W.findIn K (.ref (He.ga K C)) "__class__") (some (some (.builtin "object.__class__"))) &&
  (eqO (PySem.W.specialIn K (.builtin "object.__class__") "__get__") (some (some (.builtin "getset_descriptor.__get__"))) && (eqB (PySem.W.takesIn K (.builtin "object.__class__")) (some true) && eqB (PySem.W.mroIn K (He.ga K C) (.type "object")) (some true))))))))
theorem errB_ok {K : PySem.W.Frag} {C : Str} (h : errB C K = true) : ErrC K (He.ga K C) := by
  obtain ⟨h1, h⟩ := ba h
  obtain ⟨h2, h⟩ := ba h
  obtain ⟨h3, h⟩ := ba h
  obtain ⟨h4, h⟩ := ba h
  obtain ⟨h5, h⟩ := ba h
  obtain ⟨h6, h⟩ := ba h
  obtain ⟨h7, h⟩ := ba h
  obtain ⟨h8, h9⟩ := ba h
  exact ⟨h1, eqO_ok h2, eqO_ok h3, of_decide_eq_true h4, h5, eqO_ok h6, eqO_ok h7, of_decide_eq_true h8, of_decide_eq_true h9⟩
/-- isinstance(e, D), e of C -/
def kitB (C D : Str) (b : Bool) (K : PySem.W.Frag) : Bool := eqB (PySem.W.kitOne K (.ref (He.ga K C)) (.ref (He.ga K D))) (some b)
def kitTB (C : Str) (t : String) (b : Bool) (K : PySem.W.Frag) : Bool := eqB (PySem.W.kitOne K (.ref (He.ga K C)) (.type t)) (some b)
def mgrB (C : Str) (K : PySem.W.Frag) : Bool := eqO (PySem.W.findIn K (.ref (He.ga K C)) "__enter__") (some (some (.ref (mA C "__enter__" K)))) && (PySem.W.isFn K (.ref (mA C "__enter__" K)) && (eqO (PySem.W.findIn K (.ref (He.ga K C)) "__exit__") (some (some (.ref (mA C "__exit__" K)))) && PySem.W.isFn K (.ref (mA C "__exit__" K))))
theorem mgrB_ok {K : PySem.W.Frag} {C : Str} (h : mgrB C K = true) : Mgr K (He.ga K C) (mA C "__enter__" K) (mA C "__exit__" K) := by
  obtain ⟨h1, h⟩ := ba h
  obtain ⟨h2, h⟩ := ba h
  obtain ⟨h3, h4⟩ := ba h
  exact ⟨eqO_ok h1, h2, eqO_ok h3, h4⟩
/-- an own error with an own __init__ -/
def exInitB (C : Str) (K : PySem.W.Frag) : Bool := eqO (PySem.W.findIn K (.ref (He.ga K C)) "__init__") (some (some (.ref (mA C "__init__" K)))) && decide (PySem.W.typeIn K (.ref (mA C "__init__" K)) = some (.type "function"))
def sattrB (C : Str) (K : PySem.W.Frag) : Bool := eqO (PySem.W.findIn K (.ref (He.ga K C)) "__setattr__") (some (some (.builtin "object.__setattr__")))
def oexB (C : Str) (K : PySem.W.Frag) : Bool := match K.lookup (He.ga K C) with
  | some ⟨.type t, _, .cls cd, sl⟩ => (match cd.mro, sl.toList with
    | .ref C' :: bm, [_, _, _, _, some (.builtin n), _] => t == "type" && (C' == He.ga K C && (n == "ValueError.__new__" && (!cd.hasDel && (PySem.HandSPX.refsVE bm && cd.hasDict))))
    | _, _ => false)
  | _ => false
theorem oexB_ok {K : PySem.W.Frag} {C : Str} (h : oexB C K = true) : ∃ nm q N bs bm sn sub ab col dd k0 k1 k2 k3 k5, K.lookup (He.ga K C) = some (excClassObj nm q (He.ga K C) N bs bm true sn sub ab col dd k0 k1 k2 k3 k5 "ValueError.__new__") ∧ PySem.HandSPX.refsVE bm = true := by
  unfold oexB at h
  split at h
  · rename_i t dd cd sl ho
    split at h
    · rename_i C' bm k0 k1 k2 k3 n k5 hm hs
      simp only [Bool.and_eq_true, beq_iff_eq, Bool.not_eq_true'] at h
      obtain ⟨rfl, rfl, rfl, h4, h5, h6⟩ := h
      obtain ⟨nm, bs, mro, ns, qn, hd, sn, sub, ab, col, hdl⟩ := cd
      have hm : mro = Value.ref (He.ga K C) :: bm := hm
      have h4 : hdl = false := h4
      have h6 : hd = true := h6
      subst hm h4 h6
      obtain ⟨sl⟩ := sl
      have hs : sl = [k0, k1, k2, k3, some (.builtin "ValueError.__new__"), k5] := hs
      subst hs
      exact ⟨_, _, _, _, _, _, _, _, _, _, _, _, _, _, _, ho, h5⟩
    · cases h
  · cases h

/-! ### the Hook -/
def as0 (g : Addr → Option Obj) : Nat → List Addr
  | 0 => [mainGlobals, cStatics]
  | n + 1 => He.growD g (as0 g n)
abbrev AlL : Type := Bool × List FnC
def obsL (fa : List (PySem.W.Frag → Bool)) (fn : List DefL) (K : PySem.W.Frag) : AlL := ((fa.all fun f => f K) && fn.all fun d => d.ok1 K, fn.map fun d => fnC K (d.adr K))
def valL (fn : List DefL) : AlL := (true, fn.map DefL.val)
def SaysL (fa : List (PySem.W.Frag → Bool)) (fn : List DefL) (K : PySem.W.Frag) : Prop := obsL fa fn K = valL fn
def obsLG (n : Nat) (fa : List (PySem.W.Frag → Bool)) (fn : List DefL) (g : Addr → Option Obj) : AlL := obsL fa fn (He.frG g (as0 g n))
def hookL (n : Nat) (fa : List (PySem.W.Frag → Bool)) (fn : List DefL) : PySem.W.Hook where
  α := AlL
  obs := fun s => obsLG n fa fn s.heap.get?
  val := fun _ => valL fn
  says := fun _ h => ∃ K : PySem.W.Frag, K.In h ∧ SaysL fa fn K
  of := fun _ _ e => ⟨_, He.frG_in, e⟩
  keeps := fun _ _ _ ⟨K, hK, c⟩ k => ⟨K, PySem.W.Frag.In.keeps hK k, c⟩
theorem obsLG_eq {n : Nat} {fa : List (PySem.W.Frag → Bool)} {fn : List DefL} {g : Addr → Option Obj} {s : Shared} (h : ∀ a, g a = s.heap.get? a) : obsLG n fa fn g = (hookL n fa fn).obs s := by
  have e : g = s.heap.get? := funext h
  rw [e] <;> rfl
section
variable {fa : List (PySem.W.Frag → Bool)} {fn : List DefL} {K : PySem.W.Frag}
theorem SaysL.fact (c : SaysL fa fn K) (i : Nat) {f : PySem.W.Frag → Bool} (h : fa[i]? = some f := by rfl) : f K = true := by
  have c1 := (ba (show ((fa.all fun f => f K) && fn.all fun d => d.ok1 K) = true from congrArg (fun z : AlL => z.1) c)).1
  exact List.all_eq_true.mp c1 f (List.mem_of_getElem? h)
theorem SaysL.def_ (c : SaysL fa fn K) (i : Nat) {d : DefL} (h : fn[i]? = some d := by rfl) : fnC K (d.adr K) = d.val ∧ d.ok1 K = true := by
  have c2 := (ba (show ((fa.all fun f => f K) && fn.all fun d => d.ok1 K) = true from congrArg (fun z : AlL => z.1) c)).2
  have e : fn.map (fun d => fnC K (d.adr K)) = fn.map DefL.val := congrArg (fun z : AlL => z.2) c
  have e2 : (fn.map fun d => fnC K (d.adr K))[i]? = (fn.map DefL.val)[i]? := by rw [e]
  rw [List.getElem?_map, List.getElem?_map, h] at e2
  exact ⟨Option.some.inj e2, List.all_eq_true.mp c2 d (List.mem_of_getElem? h)⟩
end
/-- what a proof of a def leans on -/
structure Tx (fa : List (PySem.W.Frag → Bool)) (fn : List DefL) (K : PySem.W.Frag) (mg : Str → Option Value) : Prop where
  c : SaysL fa fn K
  h : ∃ h : Heap, K.In h ∧ h.Ns mainGlobals mg
section
variable {fa : List (PySem.W.Frag → Bool)} {fn : List DefL} {K : PySem.W.Frag} {mg : Str → Option Value}
theorem Tx.glo (T : Tx fa fn K mg) (i : Nat) {x : Str} (h : fa[i]? = some (fun K => (He.Fa.glo x).ok K) := by rfl) : mg x = some (.ref (He.ga K x)) := by
  obtain ⟨h1, X, G⟩ := T.h
  exact He.glo_ok X G (T.c.fact i h)
theorem Tx.free (T : Tx fa fn K mg) (i : Nat) {x : Str} (h : fa[i]? = some (fun K => (He.Fa.free x).ok K) := by rfl) : mg x = none := by
  obtain ⟨h1, X, G⟩ := T.h
  exact He.free_ok X G (T.c.fact i h)
theorem Tx.int (T : Tx fa fn K mg) (i : Nat) {x : Str} {j : Int} (h : fa[i]? = some (fun K => (He.Fa.int x j).ok K) := by rfl) : ∃ t, mg x = some (.int j t) := by
  obtain ⟨h1, X, G⟩ := T.h
  exact He.int_ok X G (T.c.fact i h)
end
end Lay
end
section
set_option Elab.async false
set_option linter.all false
set_option autoImplicit false
set_option maxRecDepth 100000
set_option maxHeartbeats 4000000
/-! the texts, the facts (printed by gen/base.py) -/
namespace Lay
open PySem PySem.Spec PyProof.Rows L2
open He (ba eqO eqO_ok)
abbrev PW : Program := PySem.Challenge.pw_latelink_k43_whole_attempts_are_all_or_n
def topS (i : Nat) : Stmt := PW.main.body.getD i (.Pass ⟨0, 0, 0, 0⟩)
def clB (s : Stmt) : List Stmt := match s with
  | .ClassDef _ _ _ b _ _ _ _ _ _ _ => b
  | _ => []
def meS (i j : Nat) : Stmt := (clB (topS i)).getD j (.Pass ⟨0, 0, 0, 0⟩)
def pfile : Str := PW.main.file
theorem top_super : (PW.main.scope.names.lookup ("super" : Str)).isSome = false := by decide +kernel
abbrev st_check_size : Stmt := (topS 20)
abbrev st_check_operation : Stmt := (topS 21)
abbrev st_check_gap : Stmt := (topS 24)
abbrev st_left_holds : Stmt := (topS 25)
abbrev st_right_holds : Stmt := (topS 26)
abbrev st_gap_state : Stmt := (topS 27)
abbrev st_gap_states : Stmt := (topS 28)
abbrev st_lost_gaps : Stmt := (topS 29)
abbrev st_foreign_writes : Stmt := (topS 30)
abbrev st_is_due : Stmt := (topS 33)
abbrev st_ushare : Stmt := (topS 34)
abbrev st_is_repairable : Stmt := (topS 35)
abbrev st_due_nodes : Stmt := (topS 36)
abbrev st_settled_debt : Stmt := (topS 37)
abbrev st_check_mode : Stmt := (topS 48)
abbrev st_ucheck_legal : Stmt := (topS 49)
abbrev st_ulast_holders : Stmt := (topS 50)
abbrev st_uloses_gap : Stmt := (topS 51)
abbrev st_uleaves_sole_holder : Stmt := (topS 52)
abbrev st_uis_local : Stmt := (topS 53)
abbrev st_mode_named : Stmt := (topS 58)
abbrev st_refuser : Stmt := (topS 59)
abbrev st_replay : Stmt := (topS 61)
abbrev st_BadOperation_init : Stmt := (meS 4 0)
abbrev st_Illegal_init : Stmt := (meS 5 0)
abbrev st_Refused_init : Stmt := (meS 6 0)
abbrev st_Full_init : Stmt := (meS 14 0)
abbrev st_Links_init : Stmt := (meS 45 1)
abbrev st_Links_built : Stmt := (meS 45 2)
abbrev st_Links_left : Stmt := (meS 45 4)
abbrev st_Links_right : Stmt := (meS 45 5)
abbrev st_Links_is_out : Stmt := (meS 45 6)
abbrev st_Links_operation_on : Stmt := (meS 45 8)
abbrev st_Links_apply : Stmt := (meS 45 9)
abbrev st_Links_apply_at : Stmt := (meS 45 10)
abbrev st_Links_copy : Stmt := (meS 45 15)
abbrev st_Links_dump : Stmt := (meS 45 16)
abbrev st_Links_udump_parts : Stmt := (meS 45 17)
abbrev st_FreeMode_refusal : Stmt := (meS 54 1)
abbrev st_SavingMode_refusal : Stmt := (meS 55 1)
abbrev st_GuardedMode_refusal : Stmt := (meS 56 1)
abbrev st_CheckedMode_refusal : Stmt := (meS 57 1)
abbrev st_Trial_init : Stmt := (meS 67 0)
abbrev st_Trial_enter : Stmt := (meS 67 1)
abbrev st_Trial_keep_changes : Stmt := (meS 67 2)
abbrev st_Trial_exit : Stmt := (meS 67 3)
abbrev st_Desk_init : Stmt := (meS 68 1)
abbrev st_Desk_length : Stmt := (meS 68 3)
abbrev st_Desk_debt : Stmt := (meS 68 4)
abbrev st_Desk_mode : Stmt := (meS 68 5)
abbrev st_Desk_log : Stmt := (meS 68 8)
abbrev st_Desk_links : Stmt := (meS 68 9)
abbrev st_Desk_do : Stmt := (meS 68 10)
abbrev st_Desk_attempt : Stmt := (meS 68 11)
abbrev st_Desk_undo : Stmt := (meS 68 14)
abbrev st_Desk_redo : Stmt := (meS 68 15)
abbrev st_Desk_uwrite : Stmt := (meS 68 17)
abbrev st_Desk_ujudge : Stmt := (meS 68 18)
abbrev st_Desk_uperform : Stmt := (meS 68 19)
abbrev st_Desk_udo_at : Stmt := (meS 68 20)
abbrev st_Desk_uclose_step : Stmt := (meS 68 21)
abbrev st_ulaw_draw : Stmt := (topS 70)
abbrev st_ulaw_exact : Stmt := (topS 71)
abbrev st_ulaw_refusal : Stmt := (topS 72)
abbrev st_ulaw_error : Stmt := (topS 73)
abbrev st_ulaw_names : Stmt := (topS 74)
abbrev st_ulaw_whole : Stmt := (topS 75)
abbrev st_ulaw_after : Stmt := (topS 76)
abbrev st_ulaw_gap : Stmt := (topS 77)
abbrev st_ulaw_gaps : Stmt := (topS 78)
abbrev st_ulaw_foreign : Stmt := (topS 79)
abbrev st_ulaw_stands : Stmt := (topS 80)
abbrev st_ulaw_refusing : Stmt := (topS 81)
abbrev st_ulaw_due_nodes : Stmt := (topS 82)
abbrev st_ulaw_debt : Stmt := (topS 83)
abbrev st_ulaw_dump : Stmt := (topS 84)
abbrev st_ulaw_box : Stmt := (topS 85)
abbrev st_ulaw_add : Stmt := (topS 86)
abbrev st_ulaw_wrong : Stmt := (topS 87)
abbrev st_ulaw_size : Stmt := (topS 88)
abbrev st_ulaw_room : Stmt := (topS 89)
abbrev st_ulaw_desk : Stmt := (topS 90)
abbrev st_ulaw_operation : Stmt := (topS 91)
abbrev st_ulaw_row : Stmt := (topS 92)
abbrev st_ulaw_reached : Stmt := (topS 93)
abbrev st_ulaw_plan : Stmt := (topS 94)
abbrev st_ulaw_deed : Stmt := (topS 95)
abbrev st_ulaw_due : Stmt := (topS 96)
abbrev st_ulaw_attempts : Stmt := (topS 97)
abbrev st_ulaw_told : Stmt := (topS 98)
abbrev st_ulaw_seen : Stmt := (topS 99)
abbrev st_ulaw_walked : Stmt := (topS 100)
abbrev st_law : Stmt := (topS 101)
def dl_check_size : DefL := { adr := gA "check_size", name := "check_size", qual := "check_size", params := defArgs st_check_size, body := defBody st_check_size, scope := defScope st_check_size }
def dl_check_operation : DefL := { adr := gA "check_operation", name := "check_operation", qual := "check_operation", params := defArgs st_check_operation, body := defBody st_check_operation, scope := defScope st_check_operation }
def dl_check_gap : DefL := { adr := gA "check_gap", name := "check_gap", qual := "check_gap", params := defArgs st_check_gap, body := defBody st_check_gap, scope := defScope st_check_gap }
def dl_left_holds : DefL := { adr := gA "left_holds", name := "left_holds", qual := "left_holds", params := defArgs st_left_holds, body := defBody st_left_holds, scope := defScope st_left_holds }
def dl_right_holds : DefL := { adr := gA "right_holds", name := "right_holds", qual := "right_holds", params := defArgs st_right_holds, body := defBody st_right_holds, scope := defScope st_right_holds }
def dl_gap_state : DefL := { adr := gA "gap_state", name := "gap_state", qual := "gap_state", params := defArgs st_gap_state, body := defBody st_gap_state, scope := defScope st_gap_state }
def dl_gap_states : DefL := { adr := gA "gap_states", name := "gap_states", qual := "gap_states", params := defArgs st_gap_states, body := defBody st_gap_states, scope := defScope st_gap_states }
def dl_lost_gaps : DefL := { adr := gA "lost_gaps", name := "lost_gaps", qual := "lost_gaps", params := defArgs st_lost_gaps, body := defBody st_lost_gaps, scope := defScope st_lost_gaps }
def dl_foreign_writes : DefL := { adr := gA "foreign_writes", name := "foreign_writes", qual := "foreign_writes", params := defArgs st_foreign_writes, body := defBody st_foreign_writes, scope := defScope st_foreign_writes }
def dl_is_due : DefL := { adr := gA "is_due", name := "is_due", qual := "is_due", params := defArgs st_is_due, body := defBody st_is_due, scope := defScope st_is_due }
def dl_ushare : DefL := { adr := gA "_share", name := "_share", qual := "_share", params := defArgs st_ushare, body := defBody st_ushare, scope := defScope st_ushare }
def dl_is_repairable : DefL := { adr := gA "is_repairable", name := "is_repairable", qual := "is_repairable", params := defArgs st_is_repairable, body := defBody st_is_repairable, scope := defScope st_is_repairable }
def dl_due_nodes : DefL := { adr := gA "due_nodes", name := "due_nodes", qual := "due_nodes", params := defArgs st_due_nodes, body := defBody st_due_nodes, scope := defScope st_due_nodes }
def dl_settled_debt : DefL := { adr := gA "settled_debt", name := "settled_debt", qual := "settled_debt", params := defArgs st_settled_debt, body := defBody st_settled_debt, scope := defScope st_settled_debt }
def dl_check_mode : DefL := { adr := gA "check_mode", name := "check_mode", qual := "check_mode", params := defArgs st_check_mode, body := defBody st_check_mode, scope := defScope st_check_mode }
def dl_ucheck_legal : DefL := { adr := gA "_check_legal", name := "_check_legal", qual := "_check_legal", params := defArgs st_ucheck_legal, body := defBody st_ucheck_legal, scope := defScope st_ucheck_legal }
def dl_ulast_holders : DefL := { adr := gA "_last_holders", name := "_last_holders", qual := "_last_holders", params := defArgs st_ulast_holders, body := defBody st_ulast_holders, scope := defScope st_ulast_holders }
def dl_uloses_gap : DefL := { adr := gA "_loses_gap", name := "_loses_gap", qual := "_loses_gap", params := defArgs st_uloses_gap, body := defBody st_uloses_gap, scope := defScope st_uloses_gap }
def dl_uleaves_sole_holder : DefL := { adr := gA "_leaves_sole_holder", name := "_leaves_sole_holder", qual := "_leaves_sole_holder", params := defArgs st_uleaves_sole_holder, body := defBody st_uleaves_sole_holder, scope := defScope st_uleaves_sole_holder }
def dl_uis_local : DefL := { adr := gA "_is_local", name := "_is_local", qual := "_is_local", params := defArgs st_uis_local, body := defBody st_uis_local, scope := defScope st_uis_local }
def dl_mode_named : DefL := { adr := gA "mode_named", name := "mode_named", qual := "mode_named", params := defArgs st_mode_named, body := defBody st_mode_named, scope := defScope st_mode_named }
def dl_refuser : DefL := { adr := gA "refuser", name := "refuser", qual := "refuser", params := defArgs st_refuser, body := defBody st_refuser, scope := defScope st_refuser }
def dl_replay : DefL := { adr := gA "replay", name := "replay", qual := "replay", params := defArgs st_replay, body := defBody st_replay, scope := defScope st_replay }
def dl_BadOperation_init : DefL := { adr := mA "BadOperation" "__init__", name := "__init__", qual := "BadOperation.__init__", params := defArgs st_BadOperation_init, body := defBody st_BadOperation_init, scope := defScope st_BadOperation_init, cell := some "BadOperation" }
def dl_Illegal_init : DefL := { adr := mA "Illegal" "__init__", name := "__init__", qual := "Illegal.__init__", params := defArgs st_Illegal_init, body := defBody st_Illegal_init, scope := defScope st_Illegal_init, cell := some "Illegal" }
def dl_Refused_init : DefL := { adr := mA "Refused" "__init__", name := "__init__", qual := "Refused.__init__", params := defArgs st_Refused_init, body := defBody st_Refused_init, scope := defScope st_Refused_init, cell := some "Refused" }
def dl_Full_init : DefL := { adr := mA "Full" "__init__", name := "__init__", qual := "Full.__init__", params := defArgs st_Full_init, body := defBody st_Full_init, scope := defScope st_Full_init, cell := some "Full" }
def dl_Links_init : DefL := { adr := mA "Links" "__init__", name := "__init__", qual := "Links.__init__", params := defArgs st_Links_init, body := defBody st_Links_init, scope := defScope st_Links_init }
def dl_Links_built : DefL := { adr := sA "Links" "built", name := "built", qual := "Links.built", params := defArgs st_Links_built, body := defBody st_Links_built, scope := defScope st_Links_built }
def dl_Links_left : DefL := { adr := mA "Links" "left", name := "left", qual := "Links.left", params := defArgs st_Links_left, body := defBody st_Links_left, scope := defScope st_Links_left }
def dl_Links_right : DefL := { adr := mA "Links" "right", name := "right", qual := "Links.right", params := defArgs st_Links_right, body := defBody st_Links_right, scope := defScope st_Links_right }
def dl_Links_is_out : DefL := { adr := mA "Links" "is_out", name := "is_out", qual := "Links.is_out", params := defArgs st_Links_is_out, body := defBody st_Links_is_out, scope := defScope st_Links_is_out }
def dl_Links_operation_on : DefL := { adr := mA "Links" "operation_on", name := "operation_on", qual := "Links.operation_on", params := defArgs st_Links_operation_on, body := defBody st_Links_operation_on, scope := defScope st_Links_operation_on }
def dl_Links_apply : DefL := { adr := mA "Links" "apply", name := "apply", qual := "Links.apply", params := defArgs st_Links_apply, body := defBody st_Links_apply, scope := defScope st_Links_apply }
def dl_Links_apply_at : DefL := { adr := mA "Links" "apply_at", name := "apply_at", qual := "Links.apply_at", params := defArgs st_Links_apply_at, body := defBody st_Links_apply_at, scope := defScope st_Links_apply_at }
def dl_Links_copy : DefL := { adr := mA "Links" "copy", name := "copy", qual := "Links.copy", params := defArgs st_Links_copy, body := defBody st_Links_copy, scope := defScope st_Links_copy }
def dl_Links_dump : DefL := { adr := mA "Links" "dump", name := "dump", qual := "Links.dump", params := defArgs st_Links_dump, body := defBody st_Links_dump, scope := defScope st_Links_dump }
def dl_Links_udump_parts : DefL := { adr := mA "Links" "_dump_parts", name := "_dump_parts", qual := "Links._dump_parts", params := defArgs st_Links_udump_parts, body := defBody st_Links_udump_parts, scope := defScope st_Links_udump_parts }
def dl_FreeMode_refusal : DefL := { adr := mA "FreeMode" "refusal", name := "refusal", qual := "FreeMode.refusal", params := defArgs st_FreeMode_refusal, body := defBody st_FreeMode_refusal, scope := defScope st_FreeMode_refusal }
def dl_SavingMode_refusal : DefL := { adr := mA "SavingMode" "refusal", name := "refusal", qual := "SavingMode.refusal", params := defArgs st_SavingMode_refusal, body := defBody st_SavingMode_refusal, scope := defScope st_SavingMode_refusal, cell := some "SavingMode" }
def dl_GuardedMode_refusal : DefL := { adr := mA "GuardedMode" "refusal", name := "refusal", qual := "GuardedMode.refusal", params := defArgs st_GuardedMode_refusal, body := defBody st_GuardedMode_refusal, scope := defScope st_GuardedMode_refusal, cell := some "GuardedMode" }
def dl_CheckedMode_refusal : DefL := { adr := mA "CheckedMode" "refusal", name := "refusal", qual := "CheckedMode.refusal", params := defArgs st_CheckedMode_refusal, body := defBody st_CheckedMode_refusal, scope := defScope st_CheckedMode_refusal, cell := some "CheckedMode" }
def dl_Trial_init : DefL := { adr := mA "Trial" "__init__", name := "__init__", qual := "Trial.__init__", params := defArgs st_Trial_init, body := defBody st_Trial_init, scope := defScope st_Trial_init }
def dl_Trial_enter : DefL := { adr := mA "Trial" "__enter__", name := "__enter__", qual := "Trial.__enter__", params := defArgs st_Trial_enter, body := defBody st_Trial_enter, scope := defScope st_Trial_enter }
def dl_Trial_keep_changes : DefL := { adr := mA "Trial" "keep_changes", name := "keep_changes", qual := "Trial.keep_changes", params := defArgs st_Trial_keep_changes, body := defBody st_Trial_keep_changes, scope := defScope st_Trial_keep_changes }
def dl_Trial_exit : DefL := { adr := mA "Trial" "__exit__", name := "__exit__", qual := "Trial.__exit__", params := defArgs st_Trial_exit, body := defBody st_Trial_exit, scope := defScope st_Trial_exit }
def dl_Desk_init : DefL := { adr := mA "Desk" "__init__", name := "__init__", qual := "Desk.__init__", params := defArgs st_Desk_init, body := defBody st_Desk_init, scope := defScope st_Desk_init, kwd := [("mode", .str "free"), ("capacity", .int 200)] }
def dl_Desk_length : DefL := { adr := pA "Desk" "length", name := "length", qual := "Desk.length", params := defArgs st_Desk_length, body := defBody st_Desk_length, scope := defScope st_Desk_length }
def dl_Desk_debt : DefL := { adr := pA "Desk" "debt", name := "debt", qual := "Desk.debt", params := defArgs st_Desk_debt, body := defBody st_Desk_debt, scope := defScope st_Desk_debt }
def dl_Desk_mode : DefL := { adr := pA "Desk" "mode", name := "mode", qual := "Desk.mode", params := defArgs st_Desk_mode, body := defBody st_Desk_mode, scope := defScope st_Desk_mode }
def dl_Desk_log : DefL := { adr := mA "Desk" "log", name := "log", qual := "Desk.log", params := defArgs st_Desk_log, body := defBody st_Desk_log, scope := defScope st_Desk_log }
def dl_Desk_links : DefL := { adr := mA "Desk" "links", name := "links", qual := "Desk.links", params := defArgs st_Desk_links, body := defBody st_Desk_links, scope := defScope st_Desk_links }
def dl_Desk_do : DefL := { adr := mA "Desk" "do", name := "do", qual := "Desk.do", params := defArgs st_Desk_do, body := defBody st_Desk_do, scope := defScope st_Desk_do }
def dl_Desk_attempt : DefL := { adr := mA "Desk" "attempt", name := "attempt", qual := "Desk.attempt", params := defArgs st_Desk_attempt, body := defBody st_Desk_attempt, scope := defScope st_Desk_attempt }
def dl_Desk_undo : DefL := { adr := mA "Desk" "undo", name := "undo", qual := "Desk.undo", params := defArgs st_Desk_undo, body := defBody st_Desk_undo, scope := defScope st_Desk_undo }
def dl_Desk_redo : DefL := { adr := mA "Desk" "redo", name := "redo", qual := "Desk.redo", params := defArgs st_Desk_redo, body := defBody st_Desk_redo, scope := defScope st_Desk_redo }
def dl_Desk_uwrite : DefL := { adr := mA "Desk" "_write", name := "_write", qual := "Desk._write", params := defArgs st_Desk_uwrite, body := defBody st_Desk_uwrite, scope := defScope st_Desk_uwrite }
def dl_Desk_ujudge : DefL := { adr := mA "Desk" "_judge", name := "_judge", qual := "Desk._judge", params := defArgs st_Desk_ujudge, body := defBody st_Desk_ujudge, scope := defScope st_Desk_ujudge }
def dl_Desk_uperform : DefL := { adr := mA "Desk" "_perform", name := "_perform", qual := "Desk._perform", params := defArgs st_Desk_uperform, body := defBody st_Desk_uperform, scope := defScope st_Desk_uperform }
def dl_Desk_udo_at : DefL := { adr := mA "Desk" "_do_at", name := "_do_at", qual := "Desk._do_at", params := defArgs st_Desk_udo_at, body := defBody st_Desk_udo_at, scope := defScope st_Desk_udo_at }
def dl_Desk_uclose_step : DefL := { adr := mA "Desk" "_close_step", name := "_close_step", qual := "Desk._close_step", params := defArgs st_Desk_uclose_step, body := defBody st_Desk_uclose_step, scope := defScope st_Desk_uclose_step }
def dl_ulaw_draw : DefL := { adr := gA "_law_draw", name := "_law_draw", qual := "_law_draw", params := defArgs st_ulaw_draw, body := defBody st_ulaw_draw, scope := defScope st_ulaw_draw }
def dl_ulaw_exact : DefL := { adr := gA "_law_exact", name := "_law_exact", qual := "_law_exact", params := defArgs st_ulaw_exact, body := defBody st_ulaw_exact, scope := defScope st_ulaw_exact }
def dl_ulaw_refusal : DefL := { adr := gA "_law_refusal", name := "_law_refusal", qual := "_law_refusal", params := defArgs st_ulaw_refusal, body := defBody st_ulaw_refusal, scope := defScope st_ulaw_refusal }
def dl_ulaw_error : DefL := { adr := gA "_law_error", name := "_law_error", qual := "_law_error", params := defArgs st_ulaw_error, body := defBody st_ulaw_error, scope := defScope st_ulaw_error }
def dl_ulaw_names : DefL := { adr := gA "_law_names", name := "_law_names", qual := "_law_names", params := defArgs st_ulaw_names, body := defBody st_ulaw_names, scope := defScope st_ulaw_names }
def dl_ulaw_whole : DefL := { adr := gA "_law_whole", name := "_law_whole", qual := "_law_whole", params := defArgs st_ulaw_whole, body := defBody st_ulaw_whole, scope := defScope st_ulaw_whole }
def dl_ulaw_after : DefL := { adr := gA "_law_after", name := "_law_after", qual := "_law_after", params := defArgs st_ulaw_after, body := defBody st_ulaw_after, scope := defScope st_ulaw_after }
def dl_ulaw_gap : DefL := { adr := gA "_law_gap", name := "_law_gap", qual := "_law_gap", params := defArgs st_ulaw_gap, body := defBody st_ulaw_gap, scope := defScope st_ulaw_gap }
def dl_ulaw_gaps : DefL := { adr := gA "_law_gaps", name := "_law_gaps", qual := "_law_gaps", params := defArgs st_ulaw_gaps, body := defBody st_ulaw_gaps, scope := defScope st_ulaw_gaps }
def dl_ulaw_foreign : DefL := { adr := gA "_law_foreign", name := "_law_foreign", qual := "_law_foreign", params := defArgs st_ulaw_foreign, body := defBody st_ulaw_foreign, scope := defScope st_ulaw_foreign }
def dl_ulaw_stands : DefL := { adr := gA "_law_stands", name := "_law_stands", qual := "_law_stands", params := defArgs st_ulaw_stands, body := defBody st_ulaw_stands, scope := defScope st_ulaw_stands }
def dl_ulaw_refusing : DefL := { adr := gA "_law_refusing", name := "_law_refusing", qual := "_law_refusing", params := defArgs st_ulaw_refusing, body := defBody st_ulaw_refusing, scope := defScope st_ulaw_refusing }
def dl_ulaw_due_nodes : DefL := { adr := gA "_law_due_nodes", name := "_law_due_nodes", qual := "_law_due_nodes", params := defArgs st_ulaw_due_nodes, body := defBody st_ulaw_due_nodes, scope := defScope st_ulaw_due_nodes }
def dl_ulaw_debt : DefL := { adr := gA "_law_debt", name := "_law_debt", qual := "_law_debt", params := defArgs st_ulaw_debt, body := defBody st_ulaw_debt, scope := defScope st_ulaw_debt }
def dl_ulaw_dump : DefL := { adr := gA "_law_dump", name := "_law_dump", qual := "_law_dump", params := defArgs st_ulaw_dump, body := defBody st_ulaw_dump, scope := defScope st_ulaw_dump }
def dl_ulaw_box : DefL := { adr := gA "_law_box", name := "_law_box", qual := "_law_box", params := defArgs st_ulaw_box, body := defBody st_ulaw_box, scope := defScope st_ulaw_box }
def dl_ulaw_add : DefL := { adr := gA "_law_add", name := "_law_add", qual := "_law_add", params := defArgs st_ulaw_add, body := defBody st_ulaw_add, scope := defScope st_ulaw_add }
def dl_ulaw_wrong : DefL := { adr := gA "_law_wrong", name := "_law_wrong", qual := "_law_wrong", params := defArgs st_ulaw_wrong, body := defBody st_ulaw_wrong, scope := defScope st_ulaw_wrong }
def dl_ulaw_size : DefL := { adr := gA "_law_size", name := "_law_size", qual := "_law_size", params := defArgs st_ulaw_size, body := defBody st_ulaw_size, scope := defScope st_ulaw_size }
def dl_ulaw_room : DefL := { adr := gA "_law_room", name := "_law_room", qual := "_law_room", params := defArgs st_ulaw_room, body := defBody st_ulaw_room, scope := defScope st_ulaw_room }
def dl_ulaw_desk : DefL := { adr := gA "_law_desk", name := "_law_desk", qual := "_law_desk", params := defArgs st_ulaw_desk, body := defBody st_ulaw_desk, scope := defScope st_ulaw_desk }
def dl_ulaw_operation : DefL := { adr := gA "_law_operation", name := "_law_operation", qual := "_law_operation", params := defArgs st_ulaw_operation, body := defBody st_ulaw_operation, scope := defScope st_ulaw_operation }
def dl_ulaw_row : DefL := { adr := gA "_law_row", name := "_law_row", qual := "_law_row", params := defArgs st_ulaw_row, body := defBody st_ulaw_row, scope := defScope st_ulaw_row }
def dl_ulaw_reached : DefL := { adr := gA "_law_reached", name := "_law_reached", qual := "_law_reached", params := defArgs st_ulaw_reached, body := defBody st_ulaw_reached, scope := defScope st_ulaw_reached }
def dl_ulaw_plan : DefL := { adr := gA "_law_plan", name := "_law_plan", qual := "_law_plan", params := defArgs st_ulaw_plan, body := defBody st_ulaw_plan, scope := defScope st_ulaw_plan }
def dl_ulaw_deed : DefL := { adr := gA "_law_deed", name := "_law_deed", qual := "_law_deed", params := defArgs st_ulaw_deed, body := defBody st_ulaw_deed, scope := defScope st_ulaw_deed }
def dl_ulaw_due : DefL := { adr := gA "_law_due", name := "_law_due", qual := "_law_due", params := defArgs st_ulaw_due, body := defBody st_ulaw_due, scope := defScope st_ulaw_due }
def dl_ulaw_attempts : DefL := { adr := gA "_law_attempts", name := "_law_attempts", qual := "_law_attempts", params := defArgs st_ulaw_attempts, body := defBody st_ulaw_attempts, scope := defScope st_ulaw_attempts }
def dl_ulaw_told : DefL := { adr := gA "_law_told", name := "_law_told", qual := "_law_told", params := defArgs st_ulaw_told, body := defBody st_ulaw_told, scope := defScope st_ulaw_told }
def dl_ulaw_seen : DefL := { adr := gA "_law_seen", name := "_law_seen", qual := "_law_seen", params := defArgs st_ulaw_seen, body := defBody st_ulaw_seen, scope := defScope st_ulaw_seen }
def dl_ulaw_walked : DefL := { adr := gA "_law_walked", name := "_law_walked", qual := "_law_walked", params := defArgs st_ulaw_walked, body := defBody st_ulaw_walked, scope := defScope st_ulaw_walked }
def dl_law : DefL := { adr := gA "law", name := "law", qual := "law", params := defArgs st_law, body := defBody st_law, scope := defScope st_law }
def fnL : List DefL := [dl_check_size, dl_check_operation, dl_check_gap, dl_left_holds, dl_right_holds, dl_gap_state, dl_gap_states, dl_lost_gaps, dl_foreign_writes, dl_is_due, dl_ushare, dl_is_repairable, dl_due_nodes, dl_settled_debt, dl_check_mode, dl_ucheck_legal, dl_ulast_holders, dl_uloses_gap, dl_uleaves_sole_holder, dl_uis_local, dl_mode_named, dl_refuser, dl_replay, dl_BadOperation_init, dl_Illegal_init, dl_Refused_init, dl_Full_init, dl_Links_init, dl_Links_built, dl_Links_left, dl_Links_right, dl_Links_is_out, dl_Links_operation_on, dl_Links_apply, dl_Links_apply_at, dl_Links_copy, dl_Links_dump, dl_Links_udump_parts, dl_FreeMode_refusal, dl_SavingMode_refusal, dl_GuardedMode_refusal, dl_CheckedMode_refusal, dl_Trial_init, dl_Trial_enter, dl_Trial_keep_changes, dl_Trial_exit, dl_Desk_init, dl_Desk_length, dl_Desk_debt, dl_Desk_mode, dl_Desk_log, dl_Desk_links, dl_Desk_do, dl_Desk_attempt, dl_Desk_undo, dl_Desk_redo, dl_Desk_uwrite, dl_Desk_ujudge, dl_Desk_uperform, dl_Desk_udo_at, dl_Desk_uclose_step, dl_ulaw_draw, dl_ulaw_exact, dl_ulaw_refusal, dl_ulaw_error, dl_ulaw_names, dl_ulaw_whole, dl_ulaw_after, dl_ulaw_gap, dl_ulaw_gaps, dl_ulaw_foreign, dl_ulaw_stands, dl_ulaw_refusing, dl_ulaw_due_nodes, dl_ulaw_debt, dl_ulaw_dump, dl_ulaw_box, dl_ulaw_add, dl_ulaw_wrong, dl_ulaw_size, dl_ulaw_room, dl_ulaw_desk, dl_ulaw_operation, dl_ulaw_row, dl_ulaw_reached, dl_ulaw_plan, dl_ulaw_deed, dl_ulaw_due, dl_ulaw_attempts, dl_ulaw_told, dl_ulaw_seen, dl_ulaw_walked, dl_law]
def faL : List (PySem.W.Frag → Bool) := [
  (fun K => (He.Fa.glo "LinkError").ok K),
  (fun K => (He.Fa.keep "LinkError").ok K),
  (fun K => (He.Fa.glo "LogError").ok K),
  (fun K => (He.Fa.keep "LogError").ok K),
  (fun K => (He.Fa.glo "BadOperation").ok K),
  (fun K => (He.Fa.keep "BadOperation").ok K),
  (fun K => (He.Fa.glo "Illegal").ok K),
  (fun K => (He.Fa.keep "Illegal").ok K),
  (fun K => (He.Fa.glo "Refused").ok K),
  (fun K => (He.Fa.keep "Refused").ok K),
  (fun K => (He.Fa.glo "BadSize").ok K),
  (fun K => (He.Fa.keep "BadSize").ok K),
  (fun K => (He.Fa.glo "BadNode").ok K),
  (fun K => (He.Fa.keep "BadNode").ok K),
  (fun K => (He.Fa.glo "BadGap").ok K),
  (fun K => (He.Fa.keep "BadGap").ok K),
  (fun K => (He.Fa.glo "BadMode").ok K),
  (fun K => (He.Fa.keep "BadMode").ok K),
  (fun K => (He.Fa.glo "BadCapacity").ok K),
  (fun K => (He.Fa.keep "BadCapacity").ok K),
  (fun K => (He.Fa.glo "Full").ok K),
  (fun K => (He.Fa.keep "Full").ok K),
  (fun K => (He.Fa.glo "NothingToUndo").ok K),
  (fun K => (He.Fa.keep "NothingToUndo").ok K),
  (fun K => (He.Fa.glo "NothingToRedo").ok K),
  (fun K => (He.Fa.keep "NothingToRedo").ok K),
  (fun K => (He.Fa.glo "check_size").ok K),
  (fun K => (He.Fa.keep "check_size").ok K),
  (fun K => (He.Fa.glo "check_operation").ok K),
  (fun K => (He.Fa.keep "check_operation").ok K),
  (fun K => (He.Fa.glo "check_gap").ok K),
  (fun K => (He.Fa.keep "check_gap").ok K),
  (fun K => (He.Fa.glo "left_holds").ok K),
  (fun K => (He.Fa.keep "left_holds").ok K),
  (fun K => (He.Fa.glo "right_holds").ok K),
  (fun K => (He.Fa.keep "right_holds").ok K),
  (fun K => (He.Fa.glo "gap_state").ok K),
  (fun K => (He.Fa.keep "gap_state").ok K),
  (fun K => (He.Fa.glo "gap_states").ok K),
  (fun K => (He.Fa.keep "gap_states").ok K),
  (fun K => (He.Fa.glo "lost_gaps").ok K),
  (fun K => (He.Fa.keep "lost_gaps").ok K),
  (fun K => (He.Fa.glo "foreign_writes").ok K),
  (fun K => (He.Fa.keep "foreign_writes").ok K),
  (fun K => (He.Fa.glo "is_due").ok K),
  (fun K => (He.Fa.keep "is_due").ok K),
  (fun K => (He.Fa.glo "_share").ok K),
  (fun K => (He.Fa.keep "_share").ok K),
  (fun K => (He.Fa.glo "is_repairable").ok K),
  (fun K => (He.Fa.keep "is_repairable").ok K),
  (fun K => (He.Fa.glo "due_nodes").ok K),
  (fun K => (He.Fa.keep "due_nodes").ok K),
  (fun K => (He.Fa.glo "settled_debt").ok K),
  (fun K => (He.Fa.keep "settled_debt").ok K),
  (fun K => (He.Fa.glo "Links").ok K),
  (fun K => (He.Fa.keep "Links").ok K),
  (fun K => (He.Fa.glo "check_mode").ok K),
  (fun K => (He.Fa.keep "check_mode").ok K),
  (fun K => (He.Fa.glo "_check_legal").ok K),
  (fun K => (He.Fa.keep "_check_legal").ok K),
  (fun K => (He.Fa.glo "_last_holders").ok K),
  (fun K => (He.Fa.keep "_last_holders").ok K),
  (fun K => (He.Fa.glo "_loses_gap").ok K),
  (fun K => (He.Fa.keep "_loses_gap").ok K),
  (fun K => (He.Fa.glo "_leaves_sole_holder").ok K),
  (fun K => (He.Fa.keep "_leaves_sole_holder").ok K),
  (fun K => (He.Fa.glo "_is_local").ok K),
  (fun K => (He.Fa.keep "_is_local").ok K),
  (fun K => (He.Fa.glo "FreeMode").ok K),
  (fun K => (He.Fa.keep "FreeMode").ok K),
  (fun K => (He.Fa.glo "SavingMode").ok K),
  (fun K => (He.Fa.keep "SavingMode").ok K),
  (fun K => (He.Fa.glo "GuardedMode").ok K),
  (fun K => (He.Fa.keep "GuardedMode").ok K),
  (fun K => (He.Fa.glo "CheckedMode").ok K),
  (fun K => (He.Fa.keep "CheckedMode").ok K),
  (fun K => (He.Fa.glo "mode_named").ok K),
  (fun K => (He.Fa.keep "mode_named").ok K),
  (fun K => (He.Fa.glo "refuser").ok K),
  (fun K => (He.Fa.keep "refuser").ok K),
  (fun K => (He.Fa.glo "replay").ok K),
  (fun K => (He.Fa.keep "replay").ok K),
  (fun K => (He.Fa.glo "Trial").ok K),
  (fun K => (He.Fa.keep "Trial").ok K),
  (fun K => (He.Fa.glo "Desk").ok K),
  (fun K => (He.Fa.keep "Desk").ok K),
  (fun K => (He.Fa.glo "_law_draw").ok K),
  (fun K => (He.Fa.keep "_law_draw").ok K),
  (fun K => (He.Fa.glo "_law_exact").ok K),
  (fun K => (He.Fa.keep "_law_exact").ok K),
  (fun K => (He.Fa.glo "_law_refusal").ok K),
  (fun K => (He.Fa.keep "_law_refusal").ok K),
  (fun K => (He.Fa.glo "_law_error").ok K),
  (fun K => (He.Fa.keep "_law_error").ok K),
  (fun K => (He.Fa.glo "_law_names").ok K),
  (fun K => (He.Fa.keep "_law_names").ok K),
  (fun K => (He.Fa.glo "_law_whole").ok K),
  (fun K => (He.Fa.keep "_law_whole").ok K),
  (fun K => (He.Fa.glo "_law_after").ok K),
  (fun K => (He.Fa.keep "_law_after").ok K),
  (fun K => (He.Fa.glo "_law_gap").ok K),
  (fun K => (He.Fa.keep "_law_gap").ok K),
  (fun K => (He.Fa.glo "_law_gaps").ok K),
  (fun K => (He.Fa.keep "_law_gaps").ok K),
  (fun K => (He.Fa.glo "_law_foreign").ok K),
  (fun K => (He.Fa.keep "_law_foreign").ok K),
  (fun K => (He.Fa.glo "_law_stands").ok K),
  (fun K => (He.Fa.keep "_law_stands").ok K),
  (fun K => (He.Fa.glo "_law_refusing").ok K),
  (fun K => (He.Fa.keep "_law_refusing").ok K),
  (fun K => (He.Fa.glo "_law_due_nodes").ok K),
  (fun K => (He.Fa.keep "_law_due_nodes").ok K),
  (fun K => (He.Fa.glo "_law_debt").ok K),
  (fun K => (He.Fa.keep "_law_debt").ok K),
  (fun K => (He.Fa.glo "_law_dump").ok K),
  (fun K => (He.Fa.keep "_law_dump").ok K),
  (fun K => (He.Fa.glo "_law_box").ok K),
  (fun K => (He.Fa.keep "_law_box").ok K),
  (fun K => (He.Fa.glo "_law_add").ok K),
  (fun K => (He.Fa.keep "_law_add").ok K),
  (fun K => (He.Fa.glo "_law_wrong").ok K),
  (fun K => (He.Fa.keep "_law_wrong").ok K),
  (fun K => (He.Fa.glo "_law_size").ok K),
  (fun K => (He.Fa.keep "_law_size").ok K),
  (fun K => (He.Fa.glo "_law_room").ok K),
  (fun K => (He.Fa.keep "_law_room").ok K),
  (fun K => (He.Fa.glo "_law_desk").ok K),
  (fun K => (He.Fa.keep "_law_desk").ok K),
  (fun K => (He.Fa.glo "_law_operation").ok K),
  (fun K => (He.Fa.keep "_law_operation").ok K),
  (fun K => (He.Fa.glo "_law_row").ok K),
  (fun K => (He.Fa.keep "_law_row").ok K),
  (fun K => (He.Fa.glo "_law_reached").ok K),
  (fun K => (He.Fa.keep "_law_reached").ok K),
  (fun K => (He.Fa.glo "_law_plan").ok K),
  (fun K => (He.Fa.keep "_law_plan").ok K),
  (fun K => (He.Fa.glo "_law_deed").ok K),
  (fun K => (He.Fa.keep "_law_deed").ok K),
  (fun K => (He.Fa.glo "_law_due").ok K),
  (fun K => (He.Fa.keep "_law_due").ok K),
  (fun K => (He.Fa.glo "_law_attempts").ok K),
  (fun K => (He.Fa.keep "_law_attempts").ok K),
  (fun K => (He.Fa.glo "_law_told").ok K),
  (fun K => (He.Fa.keep "_law_told").ok K),
  (fun K => (He.Fa.glo "_law_seen").ok K),
  (fun K => (He.Fa.keep "_law_seen").ok K),
  (fun K => (He.Fa.glo "_law_walked").ok K),
  (fun K => (He.Fa.keep "_law_walked").ok K),
  (fun K => (He.Fa.glo "law").ok K),
  (fun K => (He.Fa.keep "law").ok K),
  (fun K => (He.Fa.free "len").ok K),
  (fun K => (He.Fa.free "range").ok K),
  (fun K => (He.Fa.free "list").ok K),
  (fun K => (He.Fa.free "tuple").ok K),
  (fun K => (He.Fa.free "abs").ok K),
  (fun K => (He.Fa.free "int").ok K),
  (fun K => (He.Fa.free "str").ok K),
  (fun K => (He.Fa.free "isinstance").ok K),
  (fun K => (He.Fa.free "sum").ok K),
  (fun K => (He.Fa.free "min").ok K),
  (fun K => (He.Fa.free "enumerate").ok K),
  (fun K => (He.Fa.free "ValueError").ok K),
  (fun K => (He.Fa.free "bool").ok K),
  (fun K => (He.Fa.free "super").ok K),
  (fun K => (He.Fa.int "MOST_NODES" 60).ok K),
  (fun K => (He.Fa.glo "MODES").ok K),
  (fun K => He.tupB K "MODES" [.str "free", .str "saving", .str "guarded", .str "checked"]),
  (fun K => eqO (PySem.W.nsIn K cStatics "thirdparty.any") (some none)),
  (fun K => (He.Fa.cls "Links").ok K),
  (fun K => (He.Fa.noat "Links" "size").ok K),
  (fun K => (He.Fa.noat "Links" "_lefts").ok K),
  (fun K => (He.Fa.noat "Links" "_rights").ok K),
  (fun K => (He.Fa.noat "Links" "_flags").ok K),
  (fun K => (He.Fa.cls "Trial").ok K),
  (fun K => (He.Fa.noat "Trial" "desk").ok K),
  (fun K => (He.Fa.noat "Trial" "held_log").ok K),
  (fun K => (He.Fa.noat "Trial" "held_links").ok K),
  (fun K => (He.Fa.cls "Desk").ok K),
  (fun K => (He.Fa.noat "Desk" "size").ok K),
  (fun K => (He.Fa.noat "Desk" "capacity").ok K),
  (fun K => (He.Fa.noat "Desk" "_mode").ok K),
  (fun K => (He.Fa.noat "Desk" "_log").ok K),
  (fun K => (He.Fa.noat "Desk" "_links").ok K),
  (fun K => (He.Fa.noat "Desk" "_starts").ok K),
  (fun K => (He.Fa.noat "Desk" "_undone").ok K),
  (fun K => (He.Fa.cls "FreeMode").ok K),
  (fun K => (He.Fa.cls "SavingMode").ok K),
  (fun K => (He.Fa.cls "GuardedMode").ok K),
  (fun K => (He.Fa.cls "CheckedMode").ok K),
  (fun K => (He.Fa.mkr "Links").ok K),
  (fun K => (He.Fa.mkr "Trial").ok K),
  (fun K => (He.Fa.mkr "Desk").ok K),
  statB "Links" "built",
  (fun K => (He.Fa.meth "Links" "left").ok K),
  (fun K => (He.Fa.meth "Links" "right").ok K),
  (fun K => (He.Fa.meth "Links" "is_out").ok K),
  (fun K => (He.Fa.meth "Links" "operation_on").ok K),
  (fun K => (He.Fa.meth "Links" "apply").ok K),
  (fun K => (He.Fa.meth "Links" "apply_at").ok K),
  (fun K => (He.Fa.meth "Links" "copy").ok K),
  (fun K => (He.Fa.meth "Links" "dump").ok K),
  (fun K => (He.Fa.meth "Links" "_dump_parts").ok K),
  (fun K => (He.Fa.meth "FreeMode" "refusal").ok K),
  (fun K => (He.Fa.meth "SavingMode" "refusal").ok K),
  (fun K => (He.Fa.meth "GuardedMode" "refusal").ok K),
  (fun K => (He.Fa.meth "CheckedMode" "refusal").ok K),
  (fun K => (He.Fa.meth "Trial" "__enter__").ok K),
  (fun K => (He.Fa.meth "Trial" "keep_changes").ok K),
  (fun K => (He.Fa.meth "Trial" "__exit__").ok K),
  propB "Desk" "length",
  propB "Desk" "debt",
  propB "Desk" "mode",
  (fun K => (He.Fa.meth "Desk" "log").ok K),
  (fun K => (He.Fa.meth "Desk" "links").ok K),
  (fun K => (He.Fa.meth "Desk" "do").ok K),
  (fun K => (He.Fa.meth "Desk" "attempt").ok K),
  (fun K => (He.Fa.meth "Desk" "undo").ok K),
  (fun K => (He.Fa.meth "Desk" "redo").ok K),
  (fun K => (He.Fa.meth "Desk" "_write").ok K),
  (fun K => (He.Fa.meth "Desk" "_judge").ok K),
  (fun K => (He.Fa.meth "Desk" "_perform").ok K),
  (fun K => (He.Fa.meth "Desk" "_do_at").ok K),
  (fun K => (He.Fa.meth "Desk" "_close_step").ok K),
  newB "FreeMode",
  newB "SavingMode",
  valB "SavingMode" "NAME" (.str "saving"),
  newB "GuardedMode",
  valB "GuardedMode" "NAME" (.str "guarded"),
  newB "CheckedMode",
  valB "CheckedMode" "NAME" (.str "checked"),
  valB "Desk" "MOST" (.int 2000),
  supMB "SavingMode" "SavingMode" "FreeMode" "refusal",
  supMB "GuardedMode" "SavingMode" "FreeMode" "refusal",
  supMB "CheckedMode" "SavingMode" "FreeMode" "refusal",
  supMB "GuardedMode" "GuardedMode" "SavingMode" "refusal",
  supMB "CheckedMode" "GuardedMode" "SavingMode" "refusal",
  supMB "CheckedMode" "CheckedMode" "GuardedMode" "refusal",
  (fun K => cellB K (mA "BadOperation" "__init__" K) (He.ga K "BadOperation")),
  (fun K => fileB K (mA "BadOperation" "__init__" K) pfile),
  (fun K => (PySem.W.clsIn K (He.ga K "BadOperation")).isSome),
  (fun K => cellB K (mA "Illegal" "__init__" K) (He.ga K "Illegal")),
  (fun K => fileB K (mA "Illegal" "__init__" K) pfile),
  (fun K => (PySem.W.clsIn K (He.ga K "Illegal")).isSome),
  (fun K => cellB K (mA "Refused" "__init__" K) (He.ga K "Refused")),
  (fun K => fileB K (mA "Refused" "__init__" K) pfile),
  (fun K => (PySem.W.clsIn K (He.ga K "Refused")).isSome),
  (fun K => cellB K (mA "Full" "__init__" K) (He.ga K "Full")),
  (fun K => fileB K (mA "Full" "__init__" K) pfile),
  (fun K => (PySem.W.clsIn K (He.ga K "Full")).isSome),
  (fun K => cellB K (mA "SavingMode" "refusal" K) (He.ga K "SavingMode")),
  (fun K => fileB K (mA "SavingMode" "refusal" K) pfile),
  (fun K => (PySem.W.clsIn K (He.ga K "SavingMode")).isSome),
  (fun K => cellB K (mA "GuardedMode" "refusal" K) (He.ga K "GuardedMode")),
  (fun K => fileB K (mA "GuardedMode" "refusal" K) pfile),
  (fun K => (PySem.W.clsIn K (He.ga K "GuardedMode")).isSome),
  (fun K => cellB K (mA "CheckedMode" "refusal" K) (He.ga K "CheckedMode")),
  (fun K => fileB K (mA "CheckedMode" "refusal" K) pfile),
  (fun K => (PySem.W.clsIn K (He.ga K "CheckedMode")).isSome),
  supIB "BadOperation" "BadOperation",
  exInitB "BadOperation",
  sattrB "BadOperation",
  oexB "BadOperation",
  (fun K => eqB (PySem.W.subIn K (.ref (He.ga K "BadOperation")) (.type "BaseException")) (some true)),
  (fun K => decide (PySem.W.typeIn K (.ref (He.ga K "BadOperation")) = some (.type "type"))),
  supIB "Illegal" "Illegal",
  exInitB "Illegal",
  sattrB "Illegal",
  oexB "Illegal",
  (fun K => eqB (PySem.W.subIn K (.ref (He.ga K "Illegal")) (.type "BaseException")) (some true)),
  (fun K => decide (PySem.W.typeIn K (.ref (He.ga K "Illegal")) = some (.type "type"))),
  supIB "Refused" "Refused",
  exInitB "Refused",
  sattrB "Refused",
  oexB "Refused",
  (fun K => eqB (PySem.W.subIn K (.ref (He.ga K "Refused")) (.type "BaseException")) (some true)),
  (fun K => decide (PySem.W.typeIn K (.ref (He.ga K "Refused")) = some (.type "type"))),
  supIB "Full" "Full",
  exInitB "Full",
  sattrB "Full",
  oexB "Full",
  (fun K => eqB (PySem.W.subIn K (.ref (He.ga K "Full")) (.type "BaseException")) (some true)),
  (fun K => decide (PySem.W.typeIn K (.ref (He.ga K "Full")) = some (.type "type"))),
  errB "BadOperation",
  (fun K => (He.Fa.exm "BadOperation" "LinkError" true).ok K),
  kitTB "BadOperation" "ValueError" true,
  kitB "BadOperation" "LogError" true,
  kitB "BadOperation" "BadOperation" true,
  kitB "BadOperation" "Illegal" false,
  kitB "BadOperation" "Refused" false,
  kitB "BadOperation" "Full" false,
  kitB "BadOperation" "NothingToUndo" false,
  kitB "BadOperation" "NothingToRedo" false,
  errB "Illegal",
  (fun K => (He.Fa.exm "Illegal" "LinkError" true).ok K),
  kitTB "Illegal" "ValueError" true,
  kitB "Illegal" "LogError" true,
  kitB "Illegal" "BadOperation" false,
  kitB "Illegal" "Illegal" true,
  kitB "Illegal" "Refused" false,
  kitB "Illegal" "Full" false,
  kitB "Illegal" "NothingToUndo" false,
  kitB "Illegal" "NothingToRedo" false,
  errB "Refused",
  (fun K => (He.Fa.exm "Refused" "LinkError" true).ok K),
  kitTB "Refused" "ValueError" true,
  kitB "Refused" "LogError" true,
  kitB "Refused" "BadOperation" false,
  kitB "Refused" "Illegal" false,
  kitB "Refused" "Refused" true,
  kitB "Refused" "Full" false,
  kitB "Refused" "NothingToUndo" false,
  kitB "Refused" "NothingToRedo" false,
  errB "Full",
  (fun K => (He.Fa.exm "Full" "LinkError" true).ok K),
  kitTB "Full" "ValueError" true,
  kitB "Full" "LogError" false,
  kitB "Full" "BadOperation" false,
  kitB "Full" "Illegal" false,
  kitB "Full" "Refused" false,
  kitB "Full" "Full" true,
  kitB "Full" "NothingToUndo" false,
  kitB "Full" "NothingToRedo" false,
  errB "NothingToUndo",
  (fun K => (He.Fa.exm "NothingToUndo" "LinkError" true).ok K),
  (fun K => decide (PySem.W.typeIn K (.ref (He.ga K "NothingToUndo")) = some (.type "type"))),
  kitTB "NothingToUndo" "ValueError" true,
  kitB "NothingToUndo" "LogError" false,
  kitB "NothingToUndo" "BadOperation" false,
  kitB "NothingToUndo" "Illegal" false,
  kitB "NothingToUndo" "Refused" false,
  kitB "NothingToUndo" "Full" false,
  kitB "NothingToUndo" "NothingToUndo" true,
  kitB "NothingToUndo" "NothingToRedo" false,
  errB "NothingToRedo",
  (fun K => (He.Fa.exm "NothingToRedo" "LinkError" true).ok K),
  (fun K => decide (PySem.W.typeIn K (.ref (He.ga K "NothingToRedo")) = some (.type "type"))),
  kitTB "NothingToRedo" "ValueError" true,
  kitB "NothingToRedo" "LogError" false,
  kitB "NothingToRedo" "BadOperation" false,
  kitB "NothingToRedo" "Illegal" false,
  kitB "NothingToRedo" "Refused" false,
  kitB "NothingToRedo" "Full" false,
  kitB "NothingToRedo" "NothingToUndo" false,
  kitB "NothingToRedo" "NothingToRedo" true,
  (fun K => (He.Fa.exc "NothingToUndo").ok K),
  (fun K => (He.Fa.exc "NothingToRedo").ok K),
  (fun K => (He.Fa.noat "BadOperation" "operation").ok K),
  (fun K => (He.Fa.noat "BadOperation" "index").ok K),
  (fun K => (He.Fa.noat "Illegal" "operation").ok K),
  (fun K => (He.Fa.noat "Illegal" "index").ok K),
  (fun K => (He.Fa.noat "Refused" "operation").ok K),
  (fun K => (He.Fa.noat "Refused" "index").ok K),
  (fun K => (He.Fa.noat "Refused" "refusing").ok K),
  (fun K => (He.Fa.noat "Full" "capacity").ok K),
  mgrB "Trial"]
abbrev TX (K : PySem.W.Frag) (mg : Str → Option Value) : Prop := Tx faL fnL K mg
section
variable {K : PySem.W.Frag} {mg : Str → Option Value}
theorem g_LinkError (T : TX K mg) : mg "LinkError" = some (.ref (He.ga K "LinkError")) := T.glo 0
theorem k_LinkError (T : TX K mg) : PySem.W.keepIn K (.ref (He.ga K "LinkError")) = true := T.c.fact 1
theorem g_LogError (T : TX K mg) : mg "LogError" = some (.ref (He.ga K "LogError")) := T.glo 2
theorem k_LogError (T : TX K mg) : PySem.W.keepIn K (.ref (He.ga K "LogError")) = true := T.c.fact 3
theorem g_BadOperation (T : TX K mg) : mg "BadOperation" = some (.ref (He.ga K "BadOperation")) := T.glo 4
theorem k_BadOperation (T : TX K mg) : PySem.W.keepIn K (.ref (He.ga K "BadOperation")) = true := T.c.fact 5
theorem g_Illegal (T : TX K mg) : mg "Illegal" = some (.ref (He.ga K "Illegal")) := T.glo 6
theorem k_Illegal (T : TX K mg) : PySem.W.keepIn K (.ref (He.ga K "Illegal")) = true := T.c.fact 7
theorem g_Refused (T : TX K mg) : mg "Refused" = some (.ref (He.ga K "Refused")) := T.glo 8
theorem k_Refused (T : TX K mg) : PySem.W.keepIn K (.ref (He.ga K "Refused")) = true := T.c.fact 9
theorem g_BadSize (T : TX K mg) : mg "BadSize" = some (.ref (He.ga K "BadSize")) := T.glo 10
theorem k_BadSize (T : TX K mg) : PySem.W.keepIn K (.ref (He.ga K "BadSize")) = true := T.c.fact 11
theorem g_BadNode (T : TX K mg) : mg "BadNode" = some (.ref (He.ga K "BadNode")) := T.glo 12
theorem k_BadNode (T : TX K mg) : PySem.W.keepIn K (.ref (He.ga K "BadNode")) = true := T.c.fact 13
theorem g_BadGap (T : TX K mg) : mg "BadGap" = some (.ref (He.ga K "BadGap")) := T.glo 14
theorem k_BadGap (T : TX K mg) : PySem.W.keepIn K (.ref (He.ga K "BadGap")) = true := T.c.fact 15
theorem g_BadMode (T : TX K mg) : mg "BadMode" = some (.ref (He.ga K "BadMode")) := T.glo 16
theorem k_BadMode (T : TX K mg) : PySem.W.keepIn K (.ref (He.ga K "BadMode")) = true := T.c.fact 17
theorem g_BadCapacity (T : TX K mg) : mg "BadCapacity" = some (.ref (He.ga K "BadCapacity")) := T.glo 18
theorem k_BadCapacity (T : TX K mg) : PySem.W.keepIn K (.ref (He.ga K "BadCapacity")) = true := T.c.fact 19
theorem g_Full (T : TX K mg) : mg "Full" = some (.ref (He.ga K "Full")) := T.glo 20
theorem k_Full (T : TX K mg) : PySem.W.keepIn K (.ref (He.ga K "Full")) = true := T.c.fact 21
theorem g_NothingToUndo (T : TX K mg) : mg "NothingToUndo" = some (.ref (He.ga K "NothingToUndo")) := T.glo 22
theorem k_NothingToUndo (T : TX K mg) : PySem.W.keepIn K (.ref (He.ga K "NothingToUndo")) = true := T.c.fact 23
theorem g_NothingToRedo (T : TX K mg) : mg "NothingToRedo" = some (.ref (He.ga K "NothingToRedo")) := T.glo 24
theorem k_NothingToRedo (T : TX K mg) : PySem.W.keepIn K (.ref (He.ga K "NothingToRedo")) = true := T.c.fact 25
theorem g_check_size (T : TX K mg) : mg "check_size" = some (.ref (He.ga K "check_size")) := T.glo 26
theorem k_check_size (T : TX K mg) : PySem.W.keepIn K (.ref (He.ga K "check_size")) = true := T.c.fact 27
theorem g_check_operation (T : TX K mg) : mg "check_operation" = some (.ref (He.ga K "check_operation")) := T.glo 28
theorem k_check_operation (T : TX K mg) : PySem.W.keepIn K (.ref (He.ga K "check_operation")) = true := T.c.fact 29
theorem g_check_gap (T : TX K mg) : mg "check_gap" = some (.ref (He.ga K "check_gap")) := T.glo 30
theorem k_check_gap (T : TX K mg) : PySem.W.keepIn K (.ref (He.ga K "check_gap")) = true := T.c.fact 31
theorem g_left_holds (T : TX K mg) : mg "left_holds" = some (.ref (He.ga K "left_holds")) := T.glo 32
theorem k_left_holds (T : TX K mg) : PySem.W.keepIn K (.ref (He.ga K "left_holds")) = true := T.c.fact 33
theorem g_right_holds (T : TX K mg) : mg "right_holds" = some (.ref (He.ga K "right_holds")) := T.glo 34
theorem k_right_holds (T : TX K mg) : PySem.W.keepIn K (.ref (He.ga K "right_holds")) = true := T.c.fact 35
theorem g_gap_state (T : TX K mg) : mg "gap_state" = some (.ref (He.ga K "gap_state")) := T.glo 36
theorem k_gap_state (T : TX K mg) : PySem.W.keepIn K (.ref (He.ga K "gap_state")) = true := T.c.fact 37
theorem g_gap_states (T : TX K mg) : mg "gap_states" = some (.ref (He.ga K "gap_states")) := T.glo 38
theorem k_gap_states (T : TX K mg) : PySem.W.keepIn K (.ref (He.ga K "gap_states")) = true := T.c.fact 39
theorem g_lost_gaps (T : TX K mg) : mg "lost_gaps" = some (.ref (He.ga K "lost_gaps")) := T.glo 40
theorem k_lost_gaps (T : TX K mg) : PySem.W.keepIn K (.ref (He.ga K "lost_gaps")) = true := T.c.fact 41
theorem g_foreign_writes (T : TX K mg) : mg "foreign_writes" = some (.ref (He.ga K "foreign_writes")) := T.glo 42
theorem k_foreign_writes (T : TX K mg) : PySem.W.keepIn K (.ref (He.ga K "foreign_writes")) = true := T.c.fact 43
theorem g_is_due (T : TX K mg) : mg "is_due" = some (.ref (He.ga K "is_due")) := T.glo 44
theorem k_is_due (T : TX K mg) : PySem.W.keepIn K (.ref (He.ga K "is_due")) = true := T.c.fact 45
theorem g_ushare (T : TX K mg) : mg "_share" = some (.ref (He.ga K "_share")) := T.glo 46
theorem k_ushare (T : TX K mg) : PySem.W.keepIn K (.ref (He.ga K "_share")) = true := T.c.fact 47
theorem g_is_repairable (T : TX K mg) : mg "is_repairable" = some (.ref (He.ga K "is_repairable")) := T.glo 48
theorem k_is_repairable (T : TX K mg) : PySem.W.keepIn K (.ref (He.ga K "is_repairable")) = true := T.c.fact 49
theorem g_due_nodes (T : TX K mg) : mg "due_nodes" = some (.ref (He.ga K "due_nodes")) := T.glo 50
theorem k_due_nodes (T : TX K mg) : PySem.W.keepIn K (.ref (He.ga K "due_nodes")) = true := T.c.fact 51
theorem g_settled_debt (T : TX K mg) : mg "settled_debt" = some (.ref (He.ga K "settled_debt")) := T.glo 52
theorem k_settled_debt (T : TX K mg) : PySem.W.keepIn K (.ref (He.ga K "settled_debt")) = true := T.c.fact 53
theorem g_Links (T : TX K mg) : mg "Links" = some (.ref (He.ga K "Links")) := T.glo 54
theorem k_Links (T : TX K mg) : PySem.W.keepIn K (.ref (He.ga K "Links")) = true := T.c.fact 55
theorem g_check_mode (T : TX K mg) : mg "check_mode" = some (.ref (He.ga K "check_mode")) := T.glo 56
theorem k_check_mode (T : TX K mg) : PySem.W.keepIn K (.ref (He.ga K "check_mode")) = true := T.c.fact 57
theorem g_ucheck_legal (T : TX K mg) : mg "_check_legal" = some (.ref (He.ga K "_check_legal")) := T.glo 58
theorem k_ucheck_legal (T : TX K mg) : PySem.W.keepIn K (.ref (He.ga K "_check_legal")) = true := T.c.fact 59
theorem g_ulast_holders (T : TX K mg) : mg "_last_holders" = some (.ref (He.ga K "_last_holders")) := T.glo 60
theorem k_ulast_holders (T : TX K mg) : PySem.W.keepIn K (.ref (He.ga K "_last_holders")) = true := T.c.fact 61
theorem g_uloses_gap (T : TX K mg) : mg "_loses_gap" = some (.ref (He.ga K "_loses_gap")) := T.glo 62
theorem k_uloses_gap (T : TX K mg) : PySem.W.keepIn K (.ref (He.ga K "_loses_gap")) = true := T.c.fact 63
theorem g_uleaves_sole_holder (T : TX K mg) : mg "_leaves_sole_holder" = some (.ref (He.ga K "_leaves_sole_holder")) := T.glo 64
theorem k_uleaves_sole_holder (T : TX K mg) : PySem.W.keepIn K (.ref (He.ga K "_leaves_sole_holder")) = true := T.c.fact 65
theorem g_uis_local (T : TX K mg) : mg "_is_local" = some (.ref (He.ga K "_is_local")) := T.glo 66
theorem k_uis_local (T : TX K mg) : PySem.W.keepIn K (.ref (He.ga K "_is_local")) = true := T.c.fact 67
theorem g_FreeMode (T : TX K mg) : mg "FreeMode" = some (.ref (He.ga K "FreeMode")) := T.glo 68
theorem k_FreeMode (T : TX K mg) : PySem.W.keepIn K (.ref (He.ga K "FreeMode")) = true := T.c.fact 69
theorem g_SavingMode (T : TX K mg) : mg "SavingMode" = some (.ref (He.ga K "SavingMode")) := T.glo 70
theorem k_SavingMode (T : TX K mg) : PySem.W.keepIn K (.ref (He.ga K "SavingMode")) = true := T.c.fact 71
theorem g_GuardedMode (T : TX K mg) : mg "GuardedMode" = some (.ref (He.ga K "GuardedMode")) := T.glo 72
theorem k_GuardedMode (T : TX K mg) : PySem.W.keepIn K (.ref (He.ga K "GuardedMode")) = true := T.c.fact 73
theorem g_CheckedMode (T : TX K mg) : mg "CheckedMode" = some (.ref (He.ga K "CheckedMode")) := T.glo 74
theorem k_CheckedMode (T : TX K mg) : PySem.W.keepIn K (.ref (He.ga K "CheckedMode")) = true := T.c.fact 75
theorem g_mode_named (T : TX K mg) : mg "mode_named" = some (.ref (He.ga K "mode_named")) := T.glo 76
theorem k_mode_named (T : TX K mg) : PySem.W.keepIn K (.ref (He.ga K "mode_named")) = true := T.c.fact 77
theorem g_refuser (T : TX K mg) : mg "refuser" = some (.ref (He.ga K "refuser")) := T.glo 78
theorem k_refuser (T : TX K mg) : PySem.W.keepIn K (.ref (He.ga K "refuser")) = true := T.c.fact 79
theorem g_replay (T : TX K mg) : mg "replay" = some (.ref (He.ga K "replay")) := T.glo 80
theorem k_replay (T : TX K mg) : PySem.W.keepIn K (.ref (He.ga K "replay")) = true := T.c.fact 81
theorem g_Trial (T : TX K mg) : mg "Trial" = some (.ref (He.ga K "Trial")) := T.glo 82
theorem k_Trial (T : TX K mg) : PySem.W.keepIn K (.ref (He.ga K "Trial")) = true := T.c.fact 83
theorem g_Desk (T : TX K mg) : mg "Desk" = some (.ref (He.ga K "Desk")) := T.glo 84
theorem k_Desk (T : TX K mg) : PySem.W.keepIn K (.ref (He.ga K "Desk")) = true := T.c.fact 85
theorem g_ulaw_draw (T : TX K mg) : mg "_law_draw" = some (.ref (He.ga K "_law_draw")) := T.glo 86
theorem k_ulaw_draw (T : TX K mg) : PySem.W.keepIn K (.ref (He.ga K "_law_draw")) = true := T.c.fact 87
theorem g_ulaw_exact (T : TX K mg) : mg "_law_exact" = some (.ref (He.ga K "_law_exact")) := T.glo 88
theorem k_ulaw_exact (T : TX K mg) : PySem.W.keepIn K (.ref (He.ga K "_law_exact")) = true := T.c.fact 89
theorem g_ulaw_refusal (T : TX K mg) : mg "_law_refusal" = some (.ref (He.ga K "_law_refusal")) := T.glo 90
theorem k_ulaw_refusal (T : TX K mg) : PySem.W.keepIn K (.ref (He.ga K "_law_refusal")) = true := T.c.fact 91
theorem g_ulaw_error (T : TX K mg) : mg "_law_error" = some (.ref (He.ga K "_law_error")) := T.glo 92
theorem k_ulaw_error (T : TX K mg) : PySem.W.keepIn K (.ref (He.ga K "_law_error")) = true := T.c.fact 93
theorem g_ulaw_names (T : TX K mg) : mg "_law_names" = some (.ref (He.ga K "_law_names")) := T.glo 94
theorem k_ulaw_names (T : TX K mg) : PySem.W.keepIn K (.ref (He.ga K "_law_names")) = true := T.c.fact 95
theorem g_ulaw_whole (T : TX K mg) : mg "_law_whole" = some (.ref (He.ga K "_law_whole")) := T.glo 96
theorem k_ulaw_whole (T : TX K mg) : PySem.W.keepIn K (.ref (He.ga K "_law_whole")) = true := T.c.fact 97
theorem g_ulaw_after (T : TX K mg) : mg "_law_after" = some (.ref (He.ga K "_law_after")) := T.glo 98
theorem k_ulaw_after (T : TX K mg) : PySem.W.keepIn K (.ref (He.ga K "_law_after")) = true := T.c.fact 99
theorem g_ulaw_gap (T : TX K mg) : mg "_law_gap" = some (.ref (He.ga K "_law_gap")) := T.glo 100
theorem k_ulaw_gap (T : TX K mg) : PySem.W.keepIn K (.ref (He.ga K "_law_gap")) = true := T.c.fact 101
theorem g_ulaw_gaps (T : TX K mg) : mg "_law_gaps" = some (.ref (He.ga K "_law_gaps")) := T.glo 102
theorem k_ulaw_gaps (T : TX K mg) : PySem.W.keepIn K (.ref (He.ga K "_law_gaps")) = true := T.c.fact 103
theorem g_ulaw_foreign (T : TX K mg) : mg "_law_foreign" = some (.ref (He.ga K "_law_foreign")) := T.glo 104
theorem k_ulaw_foreign (T : TX K mg) : PySem.W.keepIn K (.ref (He.ga K "_law_foreign")) = true := T.c.fact 105
theorem g_ulaw_stands (T : TX K mg) : mg "_law_stands" = some (.ref (He.ga K "_law_stands")) := T.glo 106
theorem k_ulaw_stands (T : TX K mg) : PySem.W.keepIn K (.ref (He.ga K "_law_stands")) = true := T.c.fact 107
theorem g_ulaw_refusing (T : TX K mg) : mg "_law_refusing" = some (.ref (He.ga K "_law_refusing")) := T.glo 108
theorem k_ulaw_refusing (T : TX K mg) : PySem.W.keepIn K (.ref (He.ga K "_law_refusing")) = true := T.c.fact 109
theorem g_ulaw_due_nodes (T : TX K mg) : mg "_law_due_nodes" = some (.ref (He.ga K "_law_due_nodes")) := T.glo 110
theorem k_ulaw_due_nodes (T : TX K mg) : PySem.W.keepIn K (.ref (He.ga K "_law_due_nodes")) = true := T.c.fact 111
theorem g_ulaw_debt (T : TX K mg) : mg "_law_debt" = some (.ref (He.ga K "_law_debt")) := T.glo 112
theorem k_ulaw_debt (T : TX K mg) : PySem.W.keepIn K (.ref (He.ga K "_law_debt")) = true := T.c.fact 113
theorem g_ulaw_dump (T : TX K mg) : mg "_law_dump" = some (.ref (He.ga K "_law_dump")) := T.glo 114
theorem k_ulaw_dump (T : TX K mg) : PySem.W.keepIn K (.ref (He.ga K "_law_dump")) = true := T.c.fact 115
theorem g_ulaw_box (T : TX K mg) : mg "_law_box" = some (.ref (He.ga K "_law_box")) := T.glo 116
theorem k_ulaw_box (T : TX K mg) : PySem.W.keepIn K (.ref (He.ga K "_law_box")) = true := T.c.fact 117
theorem g_ulaw_add (T : TX K mg) : mg "_law_add" = some (.ref (He.ga K "_law_add")) := T.glo 118
theorem k_ulaw_add (T : TX K mg) : PySem.W.keepIn K (.ref (He.ga K "_law_add")) = true := T.c.fact 119
theorem g_ulaw_wrong (T : TX K mg) : mg "_law_wrong" = some (.ref (He.ga K "_law_wrong")) := T.glo 120
theorem k_ulaw_wrong (T : TX K mg) : PySem.W.keepIn K (.ref (He.ga K "_law_wrong")) = true := T.c.fact 121
theorem g_ulaw_size (T : TX K mg) : mg "_law_size" = some (.ref (He.ga K "_law_size")) := T.glo 122
theorem k_ulaw_size (T : TX K mg) : PySem.W.keepIn K (.ref (He.ga K "_law_size")) = true := T.c.fact 123
theorem g_ulaw_room (T : TX K mg) : mg "_law_room" = some (.ref (He.ga K "_law_room")) := T.glo 124
theorem k_ulaw_room (T : TX K mg) : PySem.W.keepIn K (.ref (He.ga K "_law_room")) = true := T.c.fact 125
theorem g_ulaw_desk (T : TX K mg) : mg "_law_desk" = some (.ref (He.ga K "_law_desk")) := T.glo 126
theorem k_ulaw_desk (T : TX K mg) : PySem.W.keepIn K (.ref (He.ga K "_law_desk")) = true := T.c.fact 127
theorem g_ulaw_operation (T : TX K mg) : mg "_law_operation" = some (.ref (He.ga K "_law_operation")) := T.glo 128
theorem k_ulaw_operation (T : TX K mg) : PySem.W.keepIn K (.ref (He.ga K "_law_operation")) = true := T.c.fact 129
theorem g_ulaw_row (T : TX K mg) : mg "_law_row" = some (.ref (He.ga K "_law_row")) := T.glo 130
theorem k_ulaw_row (T : TX K mg) : PySem.W.keepIn K (.ref (He.ga K "_law_row")) = true := T.c.fact 131
theorem g_ulaw_reached (T : TX K mg) : mg "_law_reached" = some (.ref (He.ga K "_law_reached")) := T.glo 132
theorem k_ulaw_reached (T : TX K mg) : PySem.W.keepIn K (.ref (He.ga K "_law_reached")) = true := T.c.fact 133
theorem g_ulaw_plan (T : TX K mg) : mg "_law_plan" = some (.ref (He.ga K "_law_plan")) := T.glo 134
theorem k_ulaw_plan (T : TX K mg) : PySem.W.keepIn K (.ref (He.ga K "_law_plan")) = true := T.c.fact 135
theorem g_ulaw_deed (T : TX K mg) : mg "_law_deed" = some (.ref (He.ga K "_law_deed")) := T.glo 136
theorem k_ulaw_deed (T : TX K mg) : PySem.W.keepIn K (.ref (He.ga K "_law_deed")) = true := T.c.fact 137
theorem g_ulaw_due (T : TX K mg) : mg "_law_due" = some (.ref (He.ga K "_law_due")) := T.glo 138
theorem k_ulaw_due (T : TX K mg) : PySem.W.keepIn K (.ref (He.ga K "_law_due")) = true := T.c.fact 139
theorem g_ulaw_attempts (T : TX K mg) : mg "_law_attempts" = some (.ref (He.ga K "_law_attempts")) := T.glo 140
theorem k_ulaw_attempts (T : TX K mg) : PySem.W.keepIn K (.ref (He.ga K "_law_attempts")) = true := T.c.fact 141
theorem g_ulaw_told (T : TX K mg) : mg "_law_told" = some (.ref (He.ga K "_law_told")) := T.glo 142
theorem k_ulaw_told (T : TX K mg) : PySem.W.keepIn K (.ref (He.ga K "_law_told")) = true := T.c.fact 143
theorem g_ulaw_seen (T : TX K mg) : mg "_law_seen" = some (.ref (He.ga K "_law_seen")) := T.glo 144
theorem k_ulaw_seen (T : TX K mg) : PySem.W.keepIn K (.ref (He.ga K "_law_seen")) = true := T.c.fact 145
theorem g_ulaw_walked (T : TX K mg) : mg "_law_walked" = some (.ref (He.ga K "_law_walked")) := T.glo 146
theorem k_ulaw_walked (T : TX K mg) : PySem.W.keepIn K (.ref (He.ga K "_law_walked")) = true := T.c.fact 147
theorem g_law (T : TX K mg) : mg "law" = some (.ref (He.ga K "law")) := T.glo 148
theorem k_law (T : TX K mg) : PySem.W.keepIn K (.ref (He.ga K "law")) = true := T.c.fact 149
theorem b_len (T : TX K mg) : mg "len" = none := T.free 150
theorem b_range (T : TX K mg) : mg "range" = none := T.free 151
theorem b_list (T : TX K mg) : mg "list" = none := T.free 152
theorem b_tuple (T : TX K mg) : mg "tuple" = none := T.free 153
theorem b_abs (T : TX K mg) : mg "abs" = none := T.free 154
theorem b_int (T : TX K mg) : mg "int" = none := T.free 155
theorem b_str (T : TX K mg) : mg "str" = none := T.free 156
theorem b_isinstance (T : TX K mg) : mg "isinstance" = none := T.free 157
theorem b_sum (T : TX K mg) : mg "sum" = none := T.free 158
theorem b_min (T : TX K mg) : mg "min" = none := T.free 159
theorem b_enumerate (T : TX K mg) : mg "enumerate" = none := T.free 160
theorem b_ValueError (T : TX K mg) : mg "ValueError" = none := T.free 161
theorem b_bool (T : TX K mg) : mg "bool" = none := T.free 162
theorem b_super (T : TX K mg) : mg "super" = none := T.free 163
theorem sup_free (T : TX K mg) : PySem.W.nsIn K mainGlobals "super" = some none := He.eqO_ok (T.c.fact 163)
theorem i_MOST_NODES (T : TX K mg) : ∃ t, mg "MOST_NODES" = some (.int 60 t) := T.int 164
theorem g_MODES (T : TX K mg) : mg "MODES" = some (.ref (He.ga K "MODES")) := T.glo 165
theorem t_MODES (T : TX K mg) : ∀ H, SqT K H (He.ga K "MODES") [.str "free", .str "saving", .str "guarded", .str "checked"] := fun H => He.tupB_ok (T.c.fact 166) H
theorem opq (T : TX K mg) : PySem.W.nsIn K cStatics "thirdparty.any" = some none := He.eqO_ok (T.c.fact 167)
theorem c_Links (T : TX K mg) : Cls K (He.ga K "Links") := He.cls_ok (T.c.fact 168)
theorem n_Links_size (T : TX K mg) : NoAttr K (He.ga K "Links") "size" := He.noat_ok (T.c.fact 169)
theorem n_Links_ulefts (T : TX K mg) : NoAttr K (He.ga K "Links") "_lefts" := He.noat_ok (T.c.fact 170)
theorem n_Links_urights (T : TX K mg) : NoAttr K (He.ga K "Links") "_rights" := He.noat_ok (T.c.fact 171)
theorem n_Links_uflags (T : TX K mg) : NoAttr K (He.ga K "Links") "_flags" := He.noat_ok (T.c.fact 172)
theorem c_Trial (T : TX K mg) : Cls K (He.ga K "Trial") := He.cls_ok (T.c.fact 173)
theorem n_Trial_desk (T : TX K mg) : NoAttr K (He.ga K "Trial") "desk" := He.noat_ok (T.c.fact 174)
theorem n_Trial_held_log (T : TX K mg) : NoAttr K (He.ga K "Trial") "held_log" := He.noat_ok (T.c.fact 175)
theorem n_Trial_held_links (T : TX K mg) : NoAttr K (He.ga K "Trial") "held_links" := He.noat_ok (T.c.fact 176)
theorem c_Desk (T : TX K mg) : Cls K (He.ga K "Desk") := He.cls_ok (T.c.fact 177)
theorem n_Desk_size (T : TX K mg) : NoAttr K (He.ga K "Desk") "size" := He.noat_ok (T.c.fact 178)
theorem n_Desk_capacity (T : TX K mg) : NoAttr K (He.ga K "Desk") "capacity" := He.noat_ok (T.c.fact 179)
theorem n_Desk_umode (T : TX K mg) : NoAttr K (He.ga K "Desk") "_mode" := He.noat_ok (T.c.fact 180)
theorem n_Desk_ulog (T : TX K mg) : NoAttr K (He.ga K "Desk") "_log" := He.noat_ok (T.c.fact 181)
theorem n_Desk_ulinks (T : TX K mg) : NoAttr K (He.ga K "Desk") "_links" := He.noat_ok (T.c.fact 182)
theorem n_Desk_ustarts (T : TX K mg) : NoAttr K (He.ga K "Desk") "_starts" := He.noat_ok (T.c.fact 183)
theorem n_Desk_uundone (T : TX K mg) : NoAttr K (He.ga K "Desk") "_undone" := He.noat_ok (T.c.fact 184)
theorem c_FreeMode (T : TX K mg) : Cls K (He.ga K "FreeMode") := He.cls_ok (T.c.fact 185)
theorem c_SavingMode (T : TX K mg) : Cls K (He.ga K "SavingMode") := He.cls_ok (T.c.fact 186)
theorem c_GuardedMode (T : TX K mg) : Cls K (He.ga K "GuardedMode") := He.cls_ok (T.c.fact 187)
theorem c_CheckedMode (T : TX K mg) : Cls K (He.ga K "CheckedMode") := He.cls_ok (T.c.fact 188)
theorem mk_Links (T : TX K mg) : Mk K (He.ga K "Links") (mA "Links" "__init__" K) := He.mkr_ok (T.c.fact 189)
theorem mk_Trial (T : TX K mg) : Mk K (He.ga K "Trial") (mA "Trial" "__init__" K) := He.mkr_ok (T.c.fact 190)
theorem mk_Desk (T : TX K mg) : Mk K (He.ga K "Desk") (mA "Desk" "__init__" K) := He.mkr_ok (T.c.fact 191)
theorem s_Links_built (T : TX K mg) : Stat K (He.ga K "Links") (.type "type") "built" (He.ma K (He.ga K "Links") "built") (sA "Links" "built" K) := statB_ok (T.c.fact 192)
theorem m_Links_left (T : TX K mg) : Meth K (He.ga K "Links") "left" (mA "Links" "left" K) := He.meth_ok (T.c.fact 193)
theorem m_Links_right (T : TX K mg) : Meth K (He.ga K "Links") "right" (mA "Links" "right" K) := He.meth_ok (T.c.fact 194)
theorem m_Links_is_out (T : TX K mg) : Meth K (He.ga K "Links") "is_out" (mA "Links" "is_out" K) := He.meth_ok (T.c.fact 195)
theorem m_Links_operation_on (T : TX K mg) : Meth K (He.ga K "Links") "operation_on" (mA "Links" "operation_on" K) := He.meth_ok (T.c.fact 196)
theorem m_Links_apply (T : TX K mg) : Meth K (He.ga K "Links") "apply" (mA "Links" "apply" K) := He.meth_ok (T.c.fact 197)
theorem m_Links_apply_at (T : TX K mg) : Meth K (He.ga K "Links") "apply_at" (mA "Links" "apply_at" K) := He.meth_ok (T.c.fact 198)
theorem m_Links_copy (T : TX K mg) : Meth K (He.ga K "Links") "copy" (mA "Links" "copy" K) := He.meth_ok (T.c.fact 199)
theorem m_Links_dump (T : TX K mg) : Meth K (He.ga K "Links") "dump" (mA "Links" "dump" K) := He.meth_ok (T.c.fact 200)
theorem m_Links_udump_parts (T : TX K mg) : Meth K (He.ga K "Links") "_dump_parts" (mA "Links" "_dump_parts" K) := He.meth_ok (T.c.fact 201)
theorem m_FreeMode_refusal (T : TX K mg) : Meth K (He.ga K "FreeMode") "refusal" (mA "FreeMode" "refusal" K) := He.meth_ok (T.c.fact 202)
theorem m_SavingMode_refusal (T : TX K mg) : Meth K (He.ga K "SavingMode") "refusal" (mA "SavingMode" "refusal" K) := He.meth_ok (T.c.fact 203)
theorem m_GuardedMode_refusal (T : TX K mg) : Meth K (He.ga K "GuardedMode") "refusal" (mA "GuardedMode" "refusal" K) := He.meth_ok (T.c.fact 204)
theorem m_CheckedMode_refusal (T : TX K mg) : Meth K (He.ga K "CheckedMode") "refusal" (mA "CheckedMode" "refusal" K) := He.meth_ok (T.c.fact 205)
theorem m_Trial_enter (T : TX K mg) : Meth K (He.ga K "Trial") "__enter__" (mA "Trial" "__enter__" K) := He.meth_ok (T.c.fact 206)
theorem m_Trial_keep_changes (T : TX K mg) : Meth K (He.ga K "Trial") "keep_changes" (mA "Trial" "keep_changes" K) := He.meth_ok (T.c.fact 207)
theorem m_Trial_exit (T : TX K mg) : Meth K (He.ga K "Trial") "__exit__" (mA "Trial" "__exit__" K) := He.meth_ok (T.c.fact 208)
theorem p_Desk_length (T : TX K mg) : PropOf K (He.ga K "Desk") "length" (He.ma K (He.ga K "Desk") "length") (pA "Desk" "length" K) := propB_ok (T.c.fact 209)
theorem p_Desk_debt (T : TX K mg) : PropOf K (He.ga K "Desk") "debt" (He.ma K (He.ga K "Desk") "debt") (pA "Desk" "debt" K) := propB_ok (T.c.fact 210)
theorem p_Desk_mode (T : TX K mg) : PropOf K (He.ga K "Desk") "mode" (He.ma K (He.ga K "Desk") "mode") (pA "Desk" "mode" K) := propB_ok (T.c.fact 211)
theorem m_Desk_log (T : TX K mg) : Meth K (He.ga K "Desk") "log" (mA "Desk" "log" K) := He.meth_ok (T.c.fact 212)
theorem m_Desk_links (T : TX K mg) : Meth K (He.ga K "Desk") "links" (mA "Desk" "links" K) := He.meth_ok (T.c.fact 213)
theorem m_Desk_do (T : TX K mg) : Meth K (He.ga K "Desk") "do" (mA "Desk" "do" K) := He.meth_ok (T.c.fact 214)
theorem m_Desk_attempt (T : TX K mg) : Meth K (He.ga K "Desk") "attempt" (mA "Desk" "attempt" K) := He.meth_ok (T.c.fact 215)
theorem m_Desk_undo (T : TX K mg) : Meth K (He.ga K "Desk") "undo" (mA "Desk" "undo" K) := He.meth_ok (T.c.fact 216)
theorem m_Desk_redo (T : TX K mg) : Meth K (He.ga K "Desk") "redo" (mA "Desk" "redo" K) := He.meth_ok (T.c.fact 217)
theorem m_Desk_uwrite (T : TX K mg) : Meth K (He.ga K "Desk") "_write" (mA "Desk" "_write" K) := He.meth_ok (T.c.fact 218)
theorem m_Desk_ujudge (T : TX K mg) : Meth K (He.ga K "Desk") "_judge" (mA "Desk" "_judge" K) := He.meth_ok (T.c.fact 219)
theorem m_Desk_uperform (T : TX K mg) : Meth K (He.ga K "Desk") "_perform" (mA "Desk" "_perform" K) := He.meth_ok (T.c.fact 220)
theorem m_Desk_udo_at (T : TX K mg) : Meth K (He.ga K "Desk") "_do_at" (mA "Desk" "_do_at" K) := He.meth_ok (T.c.fact 221)
theorem m_Desk_uclose_step (T : TX K mg) : Meth K (He.ga K "Desk") "_close_step" (mA "Desk" "_close_step" K) := He.meth_ok (T.c.fact 222)
theorem nw_FreeMode (T : TX K mg) : PySem.W.makesIn K (He.ga K "FreeMode") = true ∧ PySem.W.findIn K (.ref (He.ga K "FreeMode")) "__init__" = some (some (.builtin "object.__init__")) := ⟨(ba (T.c.fact 223)).1, He.eqO_ok (ba (ba (T.c.fact 223)).2).1⟩
theorem nw_SavingMode (T : TX K mg) : PySem.W.makesIn K (He.ga K "SavingMode") = true ∧ PySem.W.findIn K (.ref (He.ga K "SavingMode")) "__init__" = some (some (.builtin "object.__init__")) := ⟨(ba (T.c.fact 224)).1, He.eqO_ok (ba (ba (T.c.fact 224)).2).1⟩
theorem v_SavingMode (T : TX K mg) : ClX.CRead K (He.ga K "SavingMode") (.type "type") ∧ ∃ u, ClX.CVal K (He.ga K "SavingMode") (.type "type") "NAME" (.str "saving") u := valB_ok (T.c.fact 225)
theorem nw_GuardedMode (T : TX K mg) : PySem.W.makesIn K (He.ga K "GuardedMode") = true ∧ PySem.W.findIn K (.ref (He.ga K "GuardedMode")) "__init__" = some (some (.builtin "object.__init__")) := ⟨(ba (T.c.fact 226)).1, He.eqO_ok (ba (ba (T.c.fact 226)).2).1⟩
theorem v_GuardedMode (T : TX K mg) : ClX.CRead K (He.ga K "GuardedMode") (.type "type") ∧ ∃ u, ClX.CVal K (He.ga K "GuardedMode") (.type "type") "NAME" (.str "guarded") u := valB_ok (T.c.fact 227)
theorem nw_CheckedMode (T : TX K mg) : PySem.W.makesIn K (He.ga K "CheckedMode") = true ∧ PySem.W.findIn K (.ref (He.ga K "CheckedMode")) "__init__" = some (some (.builtin "object.__init__")) := ⟨(ba (T.c.fact 228)).1, He.eqO_ok (ba (ba (T.c.fact 228)).2).1⟩
theorem v_CheckedMode (T : TX K mg) : ClX.CRead K (He.ga K "CheckedMode") (.type "type") ∧ ∃ u, ClX.CVal K (He.ga K "CheckedMode") (.type "type") "NAME" (.str "checked") u := valB_ok (T.c.fact 229)
theorem v_Desk (T : TX K mg) : ClX.CRead K (He.ga K "Desk") (.type "type") ∧ ∃ u, ClX.CVal K (He.ga K "Desk") (.type "type") "MOST" (.int 2000) u := valB_ok (T.c.fact 230)
theorem sm_SavingMode_SavingMode (T : TX K mg) : SupM K (He.ga K "SavingMode") (He.ga K "SavingMode") "refusal" (mA "FreeMode" "refusal" K) := supMB_ok (T.c.fact 231)
theorem sm_GuardedMode_SavingMode (T : TX K mg) : SupM K (He.ga K "GuardedMode") (He.ga K "SavingMode") "refusal" (mA "FreeMode" "refusal" K) := supMB_ok (T.c.fact 232)
theorem sm_CheckedMode_SavingMode (T : TX K mg) : SupM K (He.ga K "CheckedMode") (He.ga K "SavingMode") "refusal" (mA "FreeMode" "refusal" K) := supMB_ok (T.c.fact 233)
theorem sm_GuardedMode_GuardedMode (T : TX K mg) : SupM K (He.ga K "GuardedMode") (He.ga K "GuardedMode") "refusal" (mA "SavingMode" "refusal" K) := supMB_ok (T.c.fact 234)
theorem sm_CheckedMode_GuardedMode (T : TX K mg) : SupM K (He.ga K "CheckedMode") (He.ga K "GuardedMode") "refusal" (mA "SavingMode" "refusal" K) := supMB_ok (T.c.fact 235)
theorem sm_CheckedMode_CheckedMode (T : TX K mg) : SupM K (He.ga K "CheckedMode") (He.ga K "CheckedMode") "refusal" (mA "GuardedMode" "refusal" K) := supMB_ok (T.c.fact 236)
theorem sc_BadOperation_init (T : TX K mg) : SupC PW K (mA "BadOperation" "__init__" K) (He.ga K "BadOperation") "self" := ⟨supC_code (T.c.fact 238), Option.isSome_iff_exists.mp (T.c.fact 239), sup_free T, top_super, opq T⟩
theorem sc_Illegal_init (T : TX K mg) : SupC PW K (mA "Illegal" "__init__" K) (He.ga K "Illegal") "self" := ⟨supC_code (T.c.fact 241), Option.isSome_iff_exists.mp (T.c.fact 242), sup_free T, top_super, opq T⟩
theorem sc_Refused_init (T : TX K mg) : SupC PW K (mA "Refused" "__init__" K) (He.ga K "Refused") "self" := ⟨supC_code (T.c.fact 244), Option.isSome_iff_exists.mp (T.c.fact 245), sup_free T, top_super, opq T⟩
theorem sc_Full_init (T : TX K mg) : SupC PW K (mA "Full" "__init__" K) (He.ga K "Full") "self" := ⟨supC_code (T.c.fact 247), Option.isSome_iff_exists.mp (T.c.fact 248), sup_free T, top_super, opq T⟩
theorem sc_SavingMode_refusal (T : TX K mg) : SupC PW K (mA "SavingMode" "refusal" K) (He.ga K "SavingMode") "self" := ⟨supC_code (T.c.fact 250), Option.isSome_iff_exists.mp (T.c.fact 251), sup_free T, top_super, opq T⟩
theorem sc_GuardedMode_refusal (T : TX K mg) : SupC PW K (mA "GuardedMode" "refusal" K) (He.ga K "GuardedMode") "self" := ⟨supC_code (T.c.fact 253), Option.isSome_iff_exists.mp (T.c.fact 254), sup_free T, top_super, opq T⟩
theorem sc_CheckedMode_refusal (T : TX K mg) : SupC PW K (mA "CheckedMode" "refusal" K) (He.ga K "CheckedMode") "self" := ⟨supC_code (T.c.fact 256), Option.isSome_iff_exists.mp (T.c.fact 257), sup_free T, top_super, opq T⟩
theorem si_BadOperation (T : TX K mg) : SupI K (He.ga K "BadOperation") (He.ga K "BadOperation") := supIB_ok (T.c.fact 258)
theorem xi_BadOperation (T : TX K mg) : PySem.W.findIn K (.ref (He.ga K "BadOperation")) "__init__" = some (some (.ref (mA "BadOperation" "__init__" K))) ∧ PySem.W.typeIn K (.ref (mA "BadOperation" "__init__" K)) = some (.type "function") := ⟨He.eqO_ok (ba (T.c.fact 259)).1, of_decide_eq_true (ba (T.c.fact 259)).2⟩
theorem sa_BadOperation (T : TX K mg) : PySem.W.findIn K (.ref (He.ga K "BadOperation")) "__setattr__" = some (some (.builtin "object.__setattr__")) := He.eqO_ok (T.c.fact 260)
theorem ox_BadOperation (T : TX K mg) : OexC K (He.ga K "BadOperation") := ⟨oexB_ok (T.c.fact 261), sa_BadOperation T, of_decide_eq_true (T.c.fact 262), of_decide_eq_true (T.c.fact 263), k_BadOperation T⟩
theorem si_Illegal (T : TX K mg) : SupI K (He.ga K "Illegal") (He.ga K "Illegal") := supIB_ok (T.c.fact 264)
theorem xi_Illegal (T : TX K mg) : PySem.W.findIn K (.ref (He.ga K "Illegal")) "__init__" = some (some (.ref (mA "Illegal" "__init__" K))) ∧ PySem.W.typeIn K (.ref (mA "Illegal" "__init__" K)) = some (.type "function") := ⟨He.eqO_ok (ba (T.c.fact 265)).1, of_decide_eq_true (ba (T.c.fact 265)).2⟩
theorem sa_Illegal (T : TX K mg) : PySem.W.findIn K (.ref (He.ga K "Illegal")) "__setattr__" = some (some (.builtin "object.__setattr__")) := He.eqO_ok (T.c.fact 266)
theorem ox_Illegal (T : TX K mg) : OexC K (He.ga K "Illegal") := ⟨oexB_ok (T.c.fact 267), sa_Illegal T, of_decide_eq_true (T.c.fact 268), of_decide_eq_true (T.c.fact 269), k_Illegal T⟩
theorem si_Refused (T : TX K mg) : SupI K (He.ga K "Refused") (He.ga K "Refused") := supIB_ok (T.c.fact 270)
theorem xi_Refused (T : TX K mg) : PySem.W.findIn K (.ref (He.ga K "Refused")) "__init__" = some (some (.ref (mA "Refused" "__init__" K))) ∧ PySem.W.typeIn K (.ref (mA "Refused" "__init__" K)) = some (.type "function") := ⟨He.eqO_ok (ba (T.c.fact 271)).1, of_decide_eq_true (ba (T.c.fact 271)).2⟩
theorem sa_Refused (T : TX K mg) : PySem.W.findIn K (.ref (He.ga K "Refused")) "__setattr__" = some (some (.builtin "object.__setattr__")) := He.eqO_ok (T.c.fact 272)
theorem ox_Refused (T : TX K mg) : OexC K (He.ga K "Refused") := ⟨oexB_ok (T.c.fact 273), sa_Refused T, of_decide_eq_true (T.c.fact 274), of_decide_eq_true (T.c.fact 275), k_Refused T⟩
theorem si_Full (T : TX K mg) : SupI K (He.ga K "Full") (He.ga K "Full") := supIB_ok (T.c.fact 276)
theorem xi_Full (T : TX K mg) : PySem.W.findIn K (.ref (He.ga K "Full")) "__init__" = some (some (.ref (mA "Full" "__init__" K))) ∧ PySem.W.typeIn K (.ref (mA "Full" "__init__" K)) = some (.type "function") := ⟨He.eqO_ok (ba (T.c.fact 277)).1, of_decide_eq_true (ba (T.c.fact 277)).2⟩
theorem sa_Full (T : TX K mg) : PySem.W.findIn K (.ref (He.ga K "Full")) "__setattr__" = some (some (.builtin "object.__setattr__")) := He.eqO_ok (T.c.fact 278)
theorem ox_Full (T : TX K mg) : OexC K (He.ga K "Full") := ⟨oexB_ok (T.c.fact 279), sa_Full T, of_decide_eq_true (T.c.fact 280), of_decide_eq_true (T.c.fact 281), k_Full T⟩
theorem er_BadOperation (T : TX K mg) : ErrC K (He.ga K "BadOperation") := errB_ok (T.c.fact 282)
theorem xm_BadOperation (T : TX K mg) : PySem.W.exmOne K (.ref (He.ga K "BadOperation")) (.ref (He.ga K "LinkError")) = some true := He.exm_ok (T.c.fact 283)
theorem ty_BadOperation (T : TX K mg) : PySem.W.typeIn K (.ref (He.ga K "BadOperation")) = some (.type "type") := of_decide_eq_true (T.c.fact 263)
theorem kv_BadOperation (T : TX K mg) : PySem.W.kitOne K (.ref (He.ga K "BadOperation")) (.type "ValueError") = some true := of_decide_eq_true (T.c.fact 284)
theorem ki_BadOperation_LogError (T : TX K mg) : PySem.W.kitOne K (.ref (He.ga K "BadOperation")) (.ref (He.ga K "LogError")) = some true := of_decide_eq_true (T.c.fact 285)
theorem ki_BadOperation_BadOperation (T : TX K mg) : PySem.W.kitOne K (.ref (He.ga K "BadOperation")) (.ref (He.ga K "BadOperation")) = some true := of_decide_eq_true (T.c.fact 286)
theorem ki_BadOperation_Illegal (T : TX K mg) : PySem.W.kitOne K (.ref (He.ga K "BadOperation")) (.ref (He.ga K "Illegal")) = some false := of_decide_eq_true (T.c.fact 287)
theorem ki_BadOperation_Refused (T : TX K mg) : PySem.W.kitOne K (.ref (He.ga K "BadOperation")) (.ref (He.ga K "Refused")) = some false := of_decide_eq_true (T.c.fact 288)
theorem ki_BadOperation_Full (T : TX K mg) : PySem.W.kitOne K (.ref (He.ga K "BadOperation")) (.ref (He.ga K "Full")) = some false := of_decide_eq_true (T.c.fact 289)
theorem ki_BadOperation_NothingToUndo (T : TX K mg) : PySem.W.kitOne K (.ref (He.ga K "BadOperation")) (.ref (He.ga K "NothingToUndo")) = some false := of_decide_eq_true (T.c.fact 290)
theorem ki_BadOperation_NothingToRedo (T : TX K mg) : PySem.W.kitOne K (.ref (He.ga K "BadOperation")) (.ref (He.ga K "NothingToRedo")) = some false := of_decide_eq_true (T.c.fact 291)
theorem er_Illegal (T : TX K mg) : ErrC K (He.ga K "Illegal") := errB_ok (T.c.fact 292)
theorem xm_Illegal (T : TX K mg) : PySem.W.exmOne K (.ref (He.ga K "Illegal")) (.ref (He.ga K "LinkError")) = some true := He.exm_ok (T.c.fact 293)
theorem ty_Illegal (T : TX K mg) : PySem.W.typeIn K (.ref (He.ga K "Illegal")) = some (.type "type") := of_decide_eq_true (T.c.fact 269)
theorem kv_Illegal (T : TX K mg) : PySem.W.kitOne K (.ref (He.ga K "Illegal")) (.type "ValueError") = some true := of_decide_eq_true (T.c.fact 294)
theorem ki_Illegal_LogError (T : TX K mg) : PySem.W.kitOne K (.ref (He.ga K "Illegal")) (.ref (He.ga K "LogError")) = some true := of_decide_eq_true (T.c.fact 295)
theorem ki_Illegal_BadOperation (T : TX K mg) : PySem.W.kitOne K (.ref (He.ga K "Illegal")) (.ref (He.ga K "BadOperation")) = some false := of_decide_eq_true (T.c.fact 296)
theorem ki_Illegal_Illegal (T : TX K mg) : PySem.W.kitOne K (.ref (He.ga K "Illegal")) (.ref (He.ga K "Illegal")) = some true := of_decide_eq_true (T.c.fact 297)
theorem ki_Illegal_Refused (T : TX K mg) : PySem.W.kitOne K (.ref (He.ga K "Illegal")) (.ref (He.ga K "Refused")) = some false := of_decide_eq_true (T.c.fact 298)
theorem ki_Illegal_Full (T : TX K mg) : PySem.W.kitOne K (.ref (He.ga K "Illegal")) (.ref (He.ga K "Full")) = some false := of_decide_eq_true (T.c.fact 299)
theorem ki_Illegal_NothingToUndo (T : TX K mg) : PySem.W.kitOne K (.ref (He.ga K "Illegal")) (.ref (He.ga K "NothingToUndo")) = some false := of_decide_eq_true (T.c.fact 300)
theorem ki_Illegal_NothingToRedo (T : TX K mg) : PySem.W.kitOne K (.ref (He.ga K "Illegal")) (.ref (He.ga K "NothingToRedo")) = some false := of_decide_eq_true (T.c.fact 301)
theorem er_Refused (T : TX K mg) : ErrC K (He.ga K "Refused") := errB_ok (T.c.fact 302)
theorem xm_Refused (T : TX K mg) : PySem.W.exmOne K (.ref (He.ga K "Refused")) (.ref (He.ga K "LinkError")) = some true := He.exm_ok (T.c.fact 303)
theorem ty_Refused (T : TX K mg) : PySem.W.typeIn K (.ref (He.ga K "Refused")) = some (.type "type") := of_decide_eq_true (T.c.fact 275)
theorem kv_Refused (T : TX K mg) : PySem.W.kitOne K (.ref (He.ga K "Refused")) (.type "ValueError") = some true := of_decide_eq_true (T.c.fact 304)
theorem ki_Refused_LogError (T : TX K mg) : PySem.W.kitOne K (.ref (He.ga K "Refused")) (.ref (He.ga K "LogError")) = some true := of_decide_eq_true (T.c.fact 305)
theorem ki_Refused_BadOperation (T : TX K mg) : PySem.W.kitOne K (.ref (He.ga K "Refused")) (.ref (He.ga K "BadOperation")) = some false := of_decide_eq_true (T.c.fact 306)
theorem ki_Refused_Illegal (T : TX K mg) : PySem.W.kitOne K (.ref (He.ga K "Refused")) (.ref (He.ga K "Illegal")) = some false := of_decide_eq_true (T.c.fact 307)
theorem ki_Refused_Refused (T : TX K mg) : PySem.W.kitOne K (.ref (He.ga K "Refused")) (.ref (He.ga K "Refused")) = some true := of_decide_eq_true (T.c.fact 308)
theorem ki_Refused_Full (T : TX K mg) : PySem.W.kitOne K (.ref (He.ga K "Refused")) (.ref (He.ga K "Full")) = some false := of_decide_eq_true (T.c.fact 309)
theorem ki_Refused_NothingToUndo (T : TX K mg) : PySem.W.kitOne K (.ref (He.ga K "Refused")) (.ref (He.ga K "NothingToUndo")) = some false := of_decide_eq_true (T.c.fact 310)
theorem ki_Refused_NothingToRedo (T : TX K mg) : PySem.W.kitOne K (.ref (He.ga K "Refused")) (.ref (He.ga K "NothingToRedo")) = some false := of_decide_eq_true (T.c.fact 311)
theorem er_Full (T : TX K mg) : ErrC K (He.ga K "Full") := errB_ok (T.c.fact 312)
theorem xm_Full (T : TX K mg) : PySem.W.exmOne K (.ref (He.ga K "Full")) (.ref (He.ga K "LinkError")) = some true := He.exm_ok (T.c.fact 313)
theorem ty_Full (T : TX K mg) : PySem.W.typeIn K (.ref (He.ga K "Full")) = some (.type "type") := of_decide_eq_true (T.c.fact 281)
theorem kv_Full (T : TX K mg) : PySem.W.kitOne K (.ref (He.ga K "Full")) (.type "ValueError") = some true := of_decide_eq_true (T.c.fact 314)
theorem ki_Full_LogError (T : TX K mg) : PySem.W.kitOne K (.ref (He.ga K "Full")) (.ref (He.ga K "LogError")) = some false := of_decide_eq_true (T.c.fact 315)
theorem ki_Full_BadOperation (T : TX K mg) : PySem.W.kitOne K (.ref (He.ga K "Full")) (.ref (He.ga K "BadOperation")) = some false := of_decide_eq_true (T.c.fact 316)
theorem ki_Full_Illegal (T : TX K mg) : PySem.W.kitOne K (.ref (He.ga K "Full")) (.ref (He.ga K "Illegal")) = some false := of_decide_eq_true (T.c.fact 317)
theorem ki_Full_Refused (T : TX K mg) : PySem.W.kitOne K (.ref (He.ga K "Full")) (.ref (He.ga K "Refused")) = some false := of_decide_eq_true (T.c.fact 318)
theorem ki_Full_Full (T : TX K mg) : PySem.W.kitOne K (.ref (He.ga K "Full")) (.ref (He.ga K "Full")) = some true := of_decide_eq_true (T.c.fact 319)
theorem ki_Full_NothingToUndo (T : TX K mg) : PySem.W.kitOne K (.ref (He.ga K "Full")) (.ref (He.ga K "NothingToUndo")) = some false := of_decide_eq_true (T.c.fact 320)
theorem ki_Full_NothingToRedo (T : TX K mg) : PySem.W.kitOne K (.ref (He.ga K "Full")) (.ref (He.ga K "NothingToRedo")) = some false := of_decide_eq_true (T.c.fact 321)
theorem er_NothingToUndo (T : TX K mg) : ErrC K (He.ga K "NothingToUndo") := errB_ok (T.c.fact 322)
theorem xm_NothingToUndo (T : TX K mg) : PySem.W.exmOne K (.ref (He.ga K "NothingToUndo")) (.ref (He.ga K "LinkError")) = some true := He.exm_ok (T.c.fact 323)
theorem ty_NothingToUndo (T : TX K mg) : PySem.W.typeIn K (.ref (He.ga K "NothingToUndo")) = some (.type "type") := of_decide_eq_true (T.c.fact 324)
theorem kv_NothingToUndo (T : TX K mg) : PySem.W.kitOne K (.ref (He.ga K "NothingToUndo")) (.type "ValueError") = some true := of_decide_eq_true (T.c.fact 325)
theorem ki_NothingToUndo_LogError (T : TX K mg) : PySem.W.kitOne K (.ref (He.ga K "NothingToUndo")) (.ref (He.ga K "LogError")) = some false := of_decide_eq_true (T.c.fact 326)
theorem ki_NothingToUndo_BadOperation (T : TX K mg) : PySem.W.kitOne K (.ref (He.ga K "NothingToUndo")) (.ref (He.ga K "BadOperation")) = some false := of_decide_eq_true (T.c.fact 327)
theorem ki_NothingToUndo_Illegal (T : TX K mg) : PySem.W.kitOne K (.ref (He.ga K "NothingToUndo")) (.ref (He.ga K "Illegal")) = some false := of_decide_eq_true (T.c.fact 328)
theorem ki_NothingToUndo_Refused (T : TX K mg) : PySem.W.kitOne K (.ref (He.ga K "NothingToUndo")) (.ref (He.ga K "Refused")) = some false := of_decide_eq_true (T.c.fact 329)
theorem ki_NothingToUndo_Full (T : TX K mg) : PySem.W.kitOne K (.ref (He.ga K "NothingToUndo")) (.ref (He.ga K "Full")) = some false := of_decide_eq_true (T.c.fact 330)
theorem ki_NothingToUndo_NothingToUndo (T : TX K mg) : PySem.W.kitOne K (.ref (He.ga K "NothingToUndo")) (.ref (He.ga K "NothingToUndo")) = some true := of_decide_eq_true (T.c.fact 331)
theorem ki_NothingToUndo_NothingToRedo (T : TX K mg) : PySem.W.kitOne K (.ref (He.ga K "NothingToUndo")) (.ref (He.ga K "NothingToRedo")) = some false := of_decide_eq_true (T.c.fact 332)
theorem er_NothingToRedo (T : TX K mg) : ErrC K (He.ga K "NothingToRedo") := errB_ok (T.c.fact 333)
theorem xm_NothingToRedo (T : TX K mg) : PySem.W.exmOne K (.ref (He.ga K "NothingToRedo")) (.ref (He.ga K "LinkError")) = some true := He.exm_ok (T.c.fact 334)
theorem ty_NothingToRedo (T : TX K mg) : PySem.W.typeIn K (.ref (He.ga K "NothingToRedo")) = some (.type "type") := of_decide_eq_true (T.c.fact 335)
theorem kv_NothingToRedo (T : TX K mg) : PySem.W.kitOne K (.ref (He.ga K "NothingToRedo")) (.type "ValueError") = some true := of_decide_eq_true (T.c.fact 336)
theorem ki_NothingToRedo_LogError (T : TX K mg) : PySem.W.kitOne K (.ref (He.ga K "NothingToRedo")) (.ref (He.ga K "LogError")) = some false := of_decide_eq_true (T.c.fact 337)
theorem ki_NothingToRedo_BadOperation (T : TX K mg) : PySem.W.kitOne K (.ref (He.ga K "NothingToRedo")) (.ref (He.ga K "BadOperation")) = some false := of_decide_eq_true (T.c.fact 338)
theorem ki_NothingToRedo_Illegal (T : TX K mg) : PySem.W.kitOne K (.ref (He.ga K "NothingToRedo")) (.ref (He.ga K "Illegal")) = some false := of_decide_eq_true (T.c.fact 339)
theorem ki_NothingToRedo_Refused (T : TX K mg) : PySem.W.kitOne K (.ref (He.ga K "NothingToRedo")) (.ref (He.ga K "Refused")) = some false := of_decide_eq_true (T.c.fact 340)
theorem ki_NothingToRedo_Full (T : TX K mg) : PySem.W.kitOne K (.ref (He.ga K "NothingToRedo")) (.ref (He.ga K "Full")) = some false := of_decide_eq_true (T.c.fact 341)
theorem ki_NothingToRedo_NothingToUndo (T : TX K mg) : PySem.W.kitOne K (.ref (He.ga K "NothingToRedo")) (.ref (He.ga K "NothingToUndo")) = some false := of_decide_eq_true (T.c.fact 342)
theorem ki_NothingToRedo_NothingToRedo (T : TX K mg) : PySem.W.kitOne K (.ref (He.ga K "NothingToRedo")) (.ref (He.ga K "NothingToRedo")) = some true := of_decide_eq_true (T.c.fact 343)
theorem ex_NothingToUndo (T : TX K mg) : PySem.W.excIn K (He.ga K "NothingToUndo") He.veBase "ValueError.__new__" = true ∧ PySem.W.keepIn K (.ref (He.ga K "NothingToUndo")) = true ∧ PySem.W.subIn K (.ref (He.ga K "NothingToUndo")) (.type "BaseException") = some true ∧ PySem.W.typeIn K (.ref (He.ga K "NothingToUndo")) = some (.type "type") := He.exc_ok (T.c.fact 344)
theorem ex_NothingToRedo (T : TX K mg) : PySem.W.excIn K (He.ga K "NothingToRedo") He.veBase "ValueError.__new__" = true ∧ PySem.W.keepIn K (.ref (He.ga K "NothingToRedo")) = true ∧ PySem.W.subIn K (.ref (He.ga K "NothingToRedo")) (.type "BaseException") = some true ∧ PySem.W.typeIn K (.ref (He.ga K "NothingToRedo")) = some (.type "type") := He.exc_ok (T.c.fact 345)
theorem n_BadOperation_operation (T : TX K mg) : PySem.W.findIn K (.ref (He.ga K "BadOperation")) "operation" = some none := He.noat_ok (T.c.fact 346)
theorem n_BadOperation_index (T : TX K mg) : PySem.W.findIn K (.ref (He.ga K "BadOperation")) "index" = some none := He.noat_ok (T.c.fact 347)
theorem n_Illegal_operation (T : TX K mg) : PySem.W.findIn K (.ref (He.ga K "Illegal")) "operation" = some none := He.noat_ok (T.c.fact 348)
theorem n_Illegal_index (T : TX K mg) : PySem.W.findIn K (.ref (He.ga K "Illegal")) "index" = some none := He.noat_ok (T.c.fact 349)
theorem n_Refused_operation (T : TX K mg) : PySem.W.findIn K (.ref (He.ga K "Refused")) "operation" = some none := He.noat_ok (T.c.fact 350)
theorem n_Refused_index (T : TX K mg) : PySem.W.findIn K (.ref (He.ga K "Refused")) "index" = some none := He.noat_ok (T.c.fact 351)
theorem n_Refused_refusing (T : TX K mg) : PySem.W.findIn K (.ref (He.ga K "Refused")) "refusing" = some none := He.noat_ok (T.c.fact 352)
theorem n_Full_capacity (T : TX K mg) : PySem.W.findIn K (.ref (He.ga K "Full")) "capacity" = some none := He.noat_ok (T.c.fact 353)
theorem mgr_Trial (T : TX K mg) : Mgr K (He.ga K "Trial") (mA "Trial" "__enter__" K) (mA "Trial" "__exit__" K) := mgrB_ok (T.c.fact 354)
theorem f_check_size (T : TX K mg) : ∃ fd, FunD K dl_check_size.name dl_check_size.qual dl_check_size.params dl_check_size.body dl_check_size.scope [] dl_check_size.kwd (dl_check_size.adr K) fd := (dl_check_size).funD rfl (T.c.def_ 0).1 (T.c.def_ 0).2
theorem f_check_operation (T : TX K mg) : ∃ fd, FunD K dl_check_operation.name dl_check_operation.qual dl_check_operation.params dl_check_operation.body dl_check_operation.scope [] dl_check_operation.kwd (dl_check_operation.adr K) fd := (dl_check_operation).funD rfl (T.c.def_ 1).1 (T.c.def_ 1).2
theorem f_check_gap (T : TX K mg) : ∃ fd, FunD K dl_check_gap.name dl_check_gap.qual dl_check_gap.params dl_check_gap.body dl_check_gap.scope [] dl_check_gap.kwd (dl_check_gap.adr K) fd := (dl_check_gap).funD rfl (T.c.def_ 2).1 (T.c.def_ 2).2
theorem f_left_holds (T : TX K mg) : ∃ fd, FunD K dl_left_holds.name dl_left_holds.qual dl_left_holds.params dl_left_holds.body dl_left_holds.scope [] dl_left_holds.kwd (dl_left_holds.adr K) fd := (dl_left_holds).funD rfl (T.c.def_ 3).1 (T.c.def_ 3).2
theorem f_right_holds (T : TX K mg) : ∃ fd, FunD K dl_right_holds.name dl_right_holds.qual dl_right_holds.params dl_right_holds.body dl_right_holds.scope [] dl_right_holds.kwd (dl_right_holds.adr K) fd := (dl_right_holds).funD rfl (T.c.def_ 4).1 (T.c.def_ 4).2
theorem f_gap_state (T : TX K mg) : ∃ fd, FunD K dl_gap_state.name dl_gap_state.qual dl_gap_state.params dl_gap_state.body dl_gap_state.scope [] dl_gap_state.kwd (dl_gap_state.adr K) fd := (dl_gap_state).funD rfl (T.c.def_ 5).1 (T.c.def_ 5).2
theorem f_gap_states (T : TX K mg) : ∃ fd, FunD K dl_gap_states.name dl_gap_states.qual dl_gap_states.params dl_gap_states.body dl_gap_states.scope [] dl_gap_states.kwd (dl_gap_states.adr K) fd := (dl_gap_states).funD rfl (T.c.def_ 6).1 (T.c.def_ 6).2
theorem f_lost_gaps (T : TX K mg) : ∃ fd, FunD K dl_lost_gaps.name dl_lost_gaps.qual dl_lost_gaps.params dl_lost_gaps.body dl_lost_gaps.scope [] dl_lost_gaps.kwd (dl_lost_gaps.adr K) fd := (dl_lost_gaps).funD rfl (T.c.def_ 7).1 (T.c.def_ 7).2
theorem f_foreign_writes (T : TX K mg) : ∃ fd, FunD K dl_foreign_writes.name dl_foreign_writes.qual dl_foreign_writes.params dl_foreign_writes.body dl_foreign_writes.scope [] dl_foreign_writes.kwd (dl_foreign_writes.adr K) fd := (dl_foreign_writes).funD rfl (T.c.def_ 8).1 (T.c.def_ 8).2
theorem f_is_due (T : TX K mg) : ∃ fd, FunD K dl_is_due.name dl_is_due.qual dl_is_due.params dl_is_due.body dl_is_due.scope [] dl_is_due.kwd (dl_is_due.adr K) fd := (dl_is_due).funD rfl (T.c.def_ 9).1 (T.c.def_ 9).2
theorem f_ushare (T : TX K mg) : ∃ fd, FunD K dl_ushare.name dl_ushare.qual dl_ushare.params dl_ushare.body dl_ushare.scope [] dl_ushare.kwd (dl_ushare.adr K) fd := (dl_ushare).funD rfl (T.c.def_ 10).1 (T.c.def_ 10).2
theorem f_is_repairable (T : TX K mg) : ∃ fd, FunD K dl_is_repairable.name dl_is_repairable.qual dl_is_repairable.params dl_is_repairable.body dl_is_repairable.scope [] dl_is_repairable.kwd (dl_is_repairable.adr K) fd := (dl_is_repairable).funD rfl (T.c.def_ 11).1 (T.c.def_ 11).2
theorem f_due_nodes (T : TX K mg) : ∃ fd, FunD K dl_due_nodes.name dl_due_nodes.qual dl_due_nodes.params dl_due_nodes.body dl_due_nodes.scope [] dl_due_nodes.kwd (dl_due_nodes.adr K) fd := (dl_due_nodes).funD rfl (T.c.def_ 12).1 (T.c.def_ 12).2
theorem f_settled_debt (T : TX K mg) : ∃ fd, FunD K dl_settled_debt.name dl_settled_debt.qual dl_settled_debt.params dl_settled_debt.body dl_settled_debt.scope [] dl_settled_debt.kwd (dl_settled_debt.adr K) fd := (dl_settled_debt).funD rfl (T.c.def_ 13).1 (T.c.def_ 13).2
theorem f_check_mode (T : TX K mg) : ∃ fd, FunD K dl_check_mode.name dl_check_mode.qual dl_check_mode.params dl_check_mode.body dl_check_mode.scope [] dl_check_mode.kwd (dl_check_mode.adr K) fd := (dl_check_mode).funD rfl (T.c.def_ 14).1 (T.c.def_ 14).2
theorem f_ucheck_legal (T : TX K mg) : ∃ fd, FunD K dl_ucheck_legal.name dl_ucheck_legal.qual dl_ucheck_legal.params dl_ucheck_legal.body dl_ucheck_legal.scope [] dl_ucheck_legal.kwd (dl_ucheck_legal.adr K) fd := (dl_ucheck_legal).funD rfl (T.c.def_ 15).1 (T.c.def_ 15).2
theorem f_ulast_holders (T : TX K mg) : ∃ fd, FunD K dl_ulast_holders.name dl_ulast_holders.qual dl_ulast_holders.params dl_ulast_holders.body dl_ulast_holders.scope [] dl_ulast_holders.kwd (dl_ulast_holders.adr K) fd := (dl_ulast_holders).funD rfl (T.c.def_ 16).1 (T.c.def_ 16).2
theorem f_uloses_gap (T : TX K mg) : ∃ fd, FunD K dl_uloses_gap.name dl_uloses_gap.qual dl_uloses_gap.params dl_uloses_gap.body dl_uloses_gap.scope [] dl_uloses_gap.kwd (dl_uloses_gap.adr K) fd := (dl_uloses_gap).funD rfl (T.c.def_ 17).1 (T.c.def_ 17).2
theorem f_uleaves_sole_holder (T : TX K mg) : ∃ fd, FunD K dl_uleaves_sole_holder.name dl_uleaves_sole_holder.qual dl_uleaves_sole_holder.params dl_uleaves_sole_holder.body dl_uleaves_sole_holder.scope [] dl_uleaves_sole_holder.kwd (dl_uleaves_sole_holder.adr K) fd := (dl_uleaves_sole_holder).funD rfl (T.c.def_ 18).1 (T.c.def_ 18).2
theorem f_uis_local (T : TX K mg) : ∃ fd, FunD K dl_uis_local.name dl_uis_local.qual dl_uis_local.params dl_uis_local.body dl_uis_local.scope [] dl_uis_local.kwd (dl_uis_local.adr K) fd := (dl_uis_local).funD rfl (T.c.def_ 19).1 (T.c.def_ 19).2
theorem f_mode_named (T : TX K mg) : ∃ fd, FunD K dl_mode_named.name dl_mode_named.qual dl_mode_named.params dl_mode_named.body dl_mode_named.scope [] dl_mode_named.kwd (dl_mode_named.adr K) fd := (dl_mode_named).funD rfl (T.c.def_ 20).1 (T.c.def_ 20).2
theorem f_refuser (T : TX K mg) : ∃ fd, FunD K dl_refuser.name dl_refuser.qual dl_refuser.params dl_refuser.body dl_refuser.scope [] dl_refuser.kwd (dl_refuser.adr K) fd := (dl_refuser).funD rfl (T.c.def_ 21).1 (T.c.def_ 21).2
theorem f_replay (T : TX K mg) : ∃ fd, FunD K dl_replay.name dl_replay.qual dl_replay.params dl_replay.body dl_replay.scope [] dl_replay.kwd (dl_replay.adr K) fd := (dl_replay).funD rfl (T.c.def_ 22).1 (T.c.def_ 22).2
theorem f_BadOperation_init (T : TX K mg) : FunC K dl_BadOperation_init.name dl_BadOperation_init.qual dl_BadOperation_init.params dl_BadOperation_init.body dl_BadOperation_init.scope (He.ga K "BadOperation") (dl_BadOperation_init.adr K) := (dl_BadOperation_init).funC rfl (T.c.def_ 23).1 (T.c.def_ 23).2 (T.c.fact 237)
theorem f_Illegal_init (T : TX K mg) : FunC K dl_Illegal_init.name dl_Illegal_init.qual dl_Illegal_init.params dl_Illegal_init.body dl_Illegal_init.scope (He.ga K "Illegal") (dl_Illegal_init.adr K) := (dl_Illegal_init).funC rfl (T.c.def_ 24).1 (T.c.def_ 24).2 (T.c.fact 240)
theorem f_Refused_init (T : TX K mg) : FunC K dl_Refused_init.name dl_Refused_init.qual dl_Refused_init.params dl_Refused_init.body dl_Refused_init.scope (He.ga K "Refused") (dl_Refused_init.adr K) := (dl_Refused_init).funC rfl (T.c.def_ 25).1 (T.c.def_ 25).2 (T.c.fact 243)
theorem f_Full_init (T : TX K mg) : FunC K dl_Full_init.name dl_Full_init.qual dl_Full_init.params dl_Full_init.body dl_Full_init.scope (He.ga K "Full") (dl_Full_init.adr K) := (dl_Full_init).funC rfl (T.c.def_ 26).1 (T.c.def_ 26).2 (T.c.fact 246)
theorem f_Links_init (T : TX K mg) : ∃ fd, FunD K dl_Links_init.name dl_Links_init.qual dl_Links_init.params dl_Links_init.body dl_Links_init.scope [] dl_Links_init.kwd (dl_Links_init.adr K) fd := (dl_Links_init).funD rfl (T.c.def_ 27).1 (T.c.def_ 27).2
theorem f_Links_built (T : TX K mg) : ∃ fd, FunD K dl_Links_built.name dl_Links_built.qual dl_Links_built.params dl_Links_built.body dl_Links_built.scope [] dl_Links_built.kwd (dl_Links_built.adr K) fd := (dl_Links_built).funD rfl (T.c.def_ 28).1 (T.c.def_ 28).2
theorem f_Links_left (T : TX K mg) : ∃ fd, FunD K dl_Links_left.name dl_Links_left.qual dl_Links_left.params dl_Links_left.body dl_Links_left.scope [] dl_Links_left.kwd (dl_Links_left.adr K) fd := (dl_Links_left).funD rfl (T.c.def_ 29).1 (T.c.def_ 29).2
theorem f_Links_right (T : TX K mg) : ∃ fd, FunD K dl_Links_right.name dl_Links_right.qual dl_Links_right.params dl_Links_right.body dl_Links_right.scope [] dl_Links_right.kwd (dl_Links_right.adr K) fd := (dl_Links_right).funD rfl (T.c.def_ 30).1 (T.c.def_ 30).2
theorem f_Links_is_out (T : TX K mg) : ∃ fd, FunD K dl_Links_is_out.name dl_Links_is_out.qual dl_Links_is_out.params dl_Links_is_out.body dl_Links_is_out.scope [] dl_Links_is_out.kwd (dl_Links_is_out.adr K) fd := (dl_Links_is_out).funD rfl (T.c.def_ 31).1 (T.c.def_ 31).2
theorem f_Links_operation_on (T : TX K mg) : ∃ fd, FunD K dl_Links_operation_on.name dl_Links_operation_on.qual dl_Links_operation_on.params dl_Links_operation_on.body dl_Links_operation_on.scope [] dl_Links_operation_on.kwd (dl_Links_operation_on.adr K) fd := (dl_Links_operation_on).funD rfl (T.c.def_ 32).1 (T.c.def_ 32).2
theorem f_Links_apply (T : TX K mg) : ∃ fd, FunD K dl_Links_apply.name dl_Links_apply.qual dl_Links_apply.params dl_Links_apply.body dl_Links_apply.scope [] dl_Links_apply.kwd (dl_Links_apply.adr K) fd := (dl_Links_apply).funD rfl (T.c.def_ 33).1 (T.c.def_ 33).2
theorem f_Links_apply_at (T : TX K mg) : ∃ fd, FunD K dl_Links_apply_at.name dl_Links_apply_at.qual dl_Links_apply_at.params dl_Links_apply_at.body dl_Links_apply_at.scope [] dl_Links_apply_at.kwd (dl_Links_apply_at.adr K) fd := (dl_Links_apply_at).funD rfl (T.c.def_ 34).1 (T.c.def_ 34).2
theorem f_Links_copy (T : TX K mg) : ∃ fd, FunD K dl_Links_copy.name dl_Links_copy.qual dl_Links_copy.params dl_Links_copy.body dl_Links_copy.scope [] dl_Links_copy.kwd (dl_Links_copy.adr K) fd := (dl_Links_copy).funD rfl (T.c.def_ 35).1 (T.c.def_ 35).2
theorem f_Links_dump (T : TX K mg) : ∃ fd, FunD K dl_Links_dump.name dl_Links_dump.qual dl_Links_dump.params dl_Links_dump.body dl_Links_dump.scope [] dl_Links_dump.kwd (dl_Links_dump.adr K) fd := (dl_Links_dump).funD rfl (T.c.def_ 36).1 (T.c.def_ 36).2
theorem f_Links_udump_parts (T : TX K mg) : ∃ fd, FunD K dl_Links_udump_parts.name dl_Links_udump_parts.qual dl_Links_udump_parts.params dl_Links_udump_parts.body dl_Links_udump_parts.scope [] dl_Links_udump_parts.kwd (dl_Links_udump_parts.adr K) fd := (dl_Links_udump_parts).funD rfl (T.c.def_ 37).1 (T.c.def_ 37).2
theorem f_FreeMode_refusal (T : TX K mg) : ∃ fd, FunD K dl_FreeMode_refusal.name dl_FreeMode_refusal.qual dl_FreeMode_refusal.params dl_FreeMode_refusal.body dl_FreeMode_refusal.scope [] dl_FreeMode_refusal.kwd (dl_FreeMode_refusal.adr K) fd := (dl_FreeMode_refusal).funD rfl (T.c.def_ 38).1 (T.c.def_ 38).2
theorem f_SavingMode_refusal (T : TX K mg) : FunC K dl_SavingMode_refusal.name dl_SavingMode_refusal.qual dl_SavingMode_refusal.params dl_SavingMode_refusal.body dl_SavingMode_refusal.scope (He.ga K "SavingMode") (dl_SavingMode_refusal.adr K) := (dl_SavingMode_refusal).funC rfl (T.c.def_ 39).1 (T.c.def_ 39).2 (T.c.fact 249)
theorem f_GuardedMode_refusal (T : TX K mg) : FunC K dl_GuardedMode_refusal.name dl_GuardedMode_refusal.qual dl_GuardedMode_refusal.params dl_GuardedMode_refusal.body dl_GuardedMode_refusal.scope (He.ga K "GuardedMode") (dl_GuardedMode_refusal.adr K) := (dl_GuardedMode_refusal).funC rfl (T.c.def_ 40).1 (T.c.def_ 40).2 (T.c.fact 252)
theorem f_CheckedMode_refusal (T : TX K mg) : FunC K dl_CheckedMode_refusal.name dl_CheckedMode_refusal.qual dl_CheckedMode_refusal.params dl_CheckedMode_refusal.body dl_CheckedMode_refusal.scope (He.ga K "CheckedMode") (dl_CheckedMode_refusal.adr K) := (dl_CheckedMode_refusal).funC rfl (T.c.def_ 41).1 (T.c.def_ 41).2 (T.c.fact 255)
theorem f_Trial_init (T : TX K mg) : ∃ fd, FunD K dl_Trial_init.name dl_Trial_init.qual dl_Trial_init.params dl_Trial_init.body dl_Trial_init.scope [] dl_Trial_init.kwd (dl_Trial_init.adr K) fd := (dl_Trial_init).funD rfl (T.c.def_ 42).1 (T.c.def_ 42).2
theorem f_Trial_enter (T : TX K mg) : ∃ fd, FunD K dl_Trial_enter.name dl_Trial_enter.qual dl_Trial_enter.params dl_Trial_enter.body dl_Trial_enter.scope [] dl_Trial_enter.kwd (dl_Trial_enter.adr K) fd := (dl_Trial_enter).funD rfl (T.c.def_ 43).1 (T.c.def_ 43).2
theorem f_Trial_keep_changes (T : TX K mg) : ∃ fd, FunD K dl_Trial_keep_changes.name dl_Trial_keep_changes.qual dl_Trial_keep_changes.params dl_Trial_keep_changes.body dl_Trial_keep_changes.scope [] dl_Trial_keep_changes.kwd (dl_Trial_keep_changes.adr K) fd := (dl_Trial_keep_changes).funD rfl (T.c.def_ 44).1 (T.c.def_ 44).2
theorem f_Trial_exit (T : TX K mg) : ∃ fd, FunD K dl_Trial_exit.name dl_Trial_exit.qual dl_Trial_exit.params dl_Trial_exit.body dl_Trial_exit.scope [] dl_Trial_exit.kwd (dl_Trial_exit.adr K) fd := (dl_Trial_exit).funD rfl (T.c.def_ 45).1 (T.c.def_ 45).2
theorem f_Desk_init (T : TX K mg) : ∃ fd, FunD K dl_Desk_init.name dl_Desk_init.qual dl_Desk_init.params dl_Desk_init.body dl_Desk_init.scope [] dl_Desk_init.kwd (dl_Desk_init.adr K) fd := (dl_Desk_init).funD rfl (T.c.def_ 46).1 (T.c.def_ 46).2
theorem f_Desk_length (T : TX K mg) : ∃ fd, FunD K dl_Desk_length.name dl_Desk_length.qual dl_Desk_length.params dl_Desk_length.body dl_Desk_length.scope [] dl_Desk_length.kwd (dl_Desk_length.adr K) fd := (dl_Desk_length).funD rfl (T.c.def_ 47).1 (T.c.def_ 47).2
theorem f_Desk_debt (T : TX K mg) : ∃ fd, FunD K dl_Desk_debt.name dl_Desk_debt.qual dl_Desk_debt.params dl_Desk_debt.body dl_Desk_debt.scope [] dl_Desk_debt.kwd (dl_Desk_debt.adr K) fd := (dl_Desk_debt).funD rfl (T.c.def_ 48).1 (T.c.def_ 48).2
theorem f_Desk_mode (T : TX K mg) : ∃ fd, FunD K dl_Desk_mode.name dl_Desk_mode.qual dl_Desk_mode.params dl_Desk_mode.body dl_Desk_mode.scope [] dl_Desk_mode.kwd (dl_Desk_mode.adr K) fd := (dl_Desk_mode).funD rfl (T.c.def_ 49).1 (T.c.def_ 49).2
theorem f_Desk_log (T : TX K mg) : ∃ fd, FunD K dl_Desk_log.name dl_Desk_log.qual dl_Desk_log.params dl_Desk_log.body dl_Desk_log.scope [] dl_Desk_log.kwd (dl_Desk_log.adr K) fd := (dl_Desk_log).funD rfl (T.c.def_ 50).1 (T.c.def_ 50).2
theorem f_Desk_links (T : TX K mg) : ∃ fd, FunD K dl_Desk_links.name dl_Desk_links.qual dl_Desk_links.params dl_Desk_links.body dl_Desk_links.scope [] dl_Desk_links.kwd (dl_Desk_links.adr K) fd := (dl_Desk_links).funD rfl (T.c.def_ 51).1 (T.c.def_ 51).2
theorem f_Desk_do (T : TX K mg) : ∃ fd, FunD K dl_Desk_do.name dl_Desk_do.qual dl_Desk_do.params dl_Desk_do.body dl_Desk_do.scope [] dl_Desk_do.kwd (dl_Desk_do.adr K) fd := (dl_Desk_do).funD rfl (T.c.def_ 52).1 (T.c.def_ 52).2
theorem f_Desk_attempt (T : TX K mg) : ∃ fd, FunD K dl_Desk_attempt.name dl_Desk_attempt.qual dl_Desk_attempt.params dl_Desk_attempt.body dl_Desk_attempt.scope [] dl_Desk_attempt.kwd (dl_Desk_attempt.adr K) fd := (dl_Desk_attempt).funD rfl (T.c.def_ 53).1 (T.c.def_ 53).2
theorem f_Desk_undo (T : TX K mg) : ∃ fd, FunD K dl_Desk_undo.name dl_Desk_undo.qual dl_Desk_undo.params dl_Desk_undo.body dl_Desk_undo.scope [] dl_Desk_undo.kwd (dl_Desk_undo.adr K) fd := (dl_Desk_undo).funD rfl (T.c.def_ 54).1 (T.c.def_ 54).2
theorem f_Desk_redo (T : TX K mg) : ∃ fd, FunD K dl_Desk_redo.name dl_Desk_redo.qual dl_Desk_redo.params dl_Desk_redo.body dl_Desk_redo.scope [] dl_Desk_redo.kwd (dl_Desk_redo.adr K) fd := (dl_Desk_redo).funD rfl (T.c.def_ 55).1 (T.c.def_ 55).2
theorem f_Desk_uwrite (T : TX K mg) : ∃ fd, FunD K dl_Desk_uwrite.name dl_Desk_uwrite.qual dl_Desk_uwrite.params dl_Desk_uwrite.body dl_Desk_uwrite.scope [] dl_Desk_uwrite.kwd (dl_Desk_uwrite.adr K) fd := (dl_Desk_uwrite).funD rfl (T.c.def_ 56).1 (T.c.def_ 56).2
theorem f_Desk_ujudge (T : TX K mg) : ∃ fd, FunD K dl_Desk_ujudge.name dl_Desk_ujudge.qual dl_Desk_ujudge.params dl_Desk_ujudge.body dl_Desk_ujudge.scope [] dl_Desk_ujudge.kwd (dl_Desk_ujudge.adr K) fd := (dl_Desk_ujudge).funD rfl (T.c.def_ 57).1 (T.c.def_ 57).2
theorem f_Desk_uperform (T : TX K mg) : ∃ fd, FunD K dl_Desk_uperform.name dl_Desk_uperform.qual dl_Desk_uperform.params dl_Desk_uperform.body dl_Desk_uperform.scope [] dl_Desk_uperform.kwd (dl_Desk_uperform.adr K) fd := (dl_Desk_uperform).funD rfl (T.c.def_ 58).1 (T.c.def_ 58).2
theorem f_Desk_udo_at (T : TX K mg) : ∃ fd, FunD K dl_Desk_udo_at.name dl_Desk_udo_at.qual dl_Desk_udo_at.params dl_Desk_udo_at.body dl_Desk_udo_at.scope [] dl_Desk_udo_at.kwd (dl_Desk_udo_at.adr K) fd := (dl_Desk_udo_at).funD rfl (T.c.def_ 59).1 (T.c.def_ 59).2
theorem f_Desk_uclose_step (T : TX K mg) : ∃ fd, FunD K dl_Desk_uclose_step.name dl_Desk_uclose_step.qual dl_Desk_uclose_step.params dl_Desk_uclose_step.body dl_Desk_uclose_step.scope [] dl_Desk_uclose_step.kwd (dl_Desk_uclose_step.adr K) fd := (dl_Desk_uclose_step).funD rfl (T.c.def_ 60).1 (T.c.def_ 60).2
theorem f_ulaw_draw (T : TX K mg) : ∃ fd, FunD K dl_ulaw_draw.name dl_ulaw_draw.qual dl_ulaw_draw.params dl_ulaw_draw.body dl_ulaw_draw.scope [] dl_ulaw_draw.kwd (dl_ulaw_draw.adr K) fd := (dl_ulaw_draw).funD rfl (T.c.def_ 61).1 (T.c.def_ 61).2
theorem f_ulaw_exact (T : TX K mg) : ∃ fd, FunD K dl_ulaw_exact.name dl_ulaw_exact.qual dl_ulaw_exact.params dl_ulaw_exact.body dl_ulaw_exact.scope [] dl_ulaw_exact.kwd (dl_ulaw_exact.adr K) fd := (dl_ulaw_exact).funD rfl (T.c.def_ 62).1 (T.c.def_ 62).2
theorem f_ulaw_refusal (T : TX K mg) : ∃ fd, FunD K dl_ulaw_refusal.name dl_ulaw_refusal.qual dl_ulaw_refusal.params dl_ulaw_refusal.body dl_ulaw_refusal.scope [] dl_ulaw_refusal.kwd (dl_ulaw_refusal.adr K) fd := (dl_ulaw_refusal).funD rfl (T.c.def_ 63).1 (T.c.def_ 63).2
theorem f_ulaw_error (T : TX K mg) : ∃ fd, FunD K dl_ulaw_error.name dl_ulaw_error.qual dl_ulaw_error.params dl_ulaw_error.body dl_ulaw_error.scope [] dl_ulaw_error.kwd (dl_ulaw_error.adr K) fd := (dl_ulaw_error).funD rfl (T.c.def_ 64).1 (T.c.def_ 64).2
theorem f_ulaw_names (T : TX K mg) : ∃ fd, FunD K dl_ulaw_names.name dl_ulaw_names.qual dl_ulaw_names.params dl_ulaw_names.body dl_ulaw_names.scope [] dl_ulaw_names.kwd (dl_ulaw_names.adr K) fd := (dl_ulaw_names).funD rfl (T.c.def_ 65).1 (T.c.def_ 65).2
theorem f_ulaw_whole (T : TX K mg) : ∃ fd, FunD K dl_ulaw_whole.name dl_ulaw_whole.qual dl_ulaw_whole.params dl_ulaw_whole.body dl_ulaw_whole.scope [] dl_ulaw_whole.kwd (dl_ulaw_whole.adr K) fd := (dl_ulaw_whole).funD rfl (T.c.def_ 66).1 (T.c.def_ 66).2
theorem f_ulaw_after (T : TX K mg) : ∃ fd, FunD K dl_ulaw_after.name dl_ulaw_after.qual dl_ulaw_after.params dl_ulaw_after.body dl_ulaw_after.scope [] dl_ulaw_after.kwd (dl_ulaw_after.adr K) fd := (dl_ulaw_after).funD rfl (T.c.def_ 67).1 (T.c.def_ 67).2
theorem f_ulaw_gap (T : TX K mg) : ∃ fd, FunD K dl_ulaw_gap.name dl_ulaw_gap.qual dl_ulaw_gap.params dl_ulaw_gap.body dl_ulaw_gap.scope [] dl_ulaw_gap.kwd (dl_ulaw_gap.adr K) fd := (dl_ulaw_gap).funD rfl (T.c.def_ 68).1 (T.c.def_ 68).2
theorem f_ulaw_gaps (T : TX K mg) : ∃ fd, FunD K dl_ulaw_gaps.name dl_ulaw_gaps.qual dl_ulaw_gaps.params dl_ulaw_gaps.body dl_ulaw_gaps.scope [] dl_ulaw_gaps.kwd (dl_ulaw_gaps.adr K) fd := (dl_ulaw_gaps).funD rfl (T.c.def_ 69).1 (T.c.def_ 69).2
theorem f_ulaw_foreign (T : TX K mg) : ∃ fd, FunD K dl_ulaw_foreign.name dl_ulaw_foreign.qual dl_ulaw_foreign.params dl_ulaw_foreign.body dl_ulaw_foreign.scope [] dl_ulaw_foreign.kwd (dl_ulaw_foreign.adr K) fd := (dl_ulaw_foreign).funD rfl (T.c.def_ 70).1 (T.c.def_ 70).2
theorem f_ulaw_stands (T : TX K mg) : ∃ fd, FunD K dl_ulaw_stands.name dl_ulaw_stands.qual dl_ulaw_stands.params dl_ulaw_stands.body dl_ulaw_stands.scope [] dl_ulaw_stands.kwd (dl_ulaw_stands.adr K) fd := (dl_ulaw_stands).funD rfl (T.c.def_ 71).1 (T.c.def_ 71).2
theorem f_ulaw_refusing (T : TX K mg) : ∃ fd, FunD K dl_ulaw_refusing.name dl_ulaw_refusing.qual dl_ulaw_refusing.params dl_ulaw_refusing.body dl_ulaw_refusing.scope [] dl_ulaw_refusing.kwd (dl_ulaw_refusing.adr K) fd := (dl_ulaw_refusing).funD rfl (T.c.def_ 72).1 (T.c.def_ 72).2
theorem f_ulaw_due_nodes (T : TX K mg) : ∃ fd, FunD K dl_ulaw_due_nodes.name dl_ulaw_due_nodes.qual dl_ulaw_due_nodes.params dl_ulaw_due_nodes.body dl_ulaw_due_nodes.scope [] dl_ulaw_due_nodes.kwd (dl_ulaw_due_nodes.adr K) fd := (dl_ulaw_due_nodes).funD rfl (T.c.def_ 73).1 (T.c.def_ 73).2
theorem f_ulaw_debt (T : TX K mg) : ∃ fd, FunD K dl_ulaw_debt.name dl_ulaw_debt.qual dl_ulaw_debt.params dl_ulaw_debt.body dl_ulaw_debt.scope [] dl_ulaw_debt.kwd (dl_ulaw_debt.adr K) fd := (dl_ulaw_debt).funD rfl (T.c.def_ 74).1 (T.c.def_ 74).2
theorem f_ulaw_dump (T : TX K mg) : ∃ fd, FunD K dl_ulaw_dump.name dl_ulaw_dump.qual dl_ulaw_dump.params dl_ulaw_dump.body dl_ulaw_dump.scope [] dl_ulaw_dump.kwd (dl_ulaw_dump.adr K) fd := (dl_ulaw_dump).funD rfl (T.c.def_ 75).1 (T.c.def_ 75).2
theorem f_ulaw_box (T : TX K mg) : ∃ fd, FunD K dl_ulaw_box.name dl_ulaw_box.qual dl_ulaw_box.params dl_ulaw_box.body dl_ulaw_box.scope [] dl_ulaw_box.kwd (dl_ulaw_box.adr K) fd := (dl_ulaw_box).funD rfl (T.c.def_ 76).1 (T.c.def_ 76).2
theorem f_ulaw_add (T : TX K mg) : ∃ fd, FunD K dl_ulaw_add.name dl_ulaw_add.qual dl_ulaw_add.params dl_ulaw_add.body dl_ulaw_add.scope [] dl_ulaw_add.kwd (dl_ulaw_add.adr K) fd := (dl_ulaw_add).funD rfl (T.c.def_ 77).1 (T.c.def_ 77).2
theorem f_ulaw_wrong (T : TX K mg) : ∃ fd, FunD K dl_ulaw_wrong.name dl_ulaw_wrong.qual dl_ulaw_wrong.params dl_ulaw_wrong.body dl_ulaw_wrong.scope [] dl_ulaw_wrong.kwd (dl_ulaw_wrong.adr K) fd := (dl_ulaw_wrong).funD rfl (T.c.def_ 78).1 (T.c.def_ 78).2
theorem f_ulaw_size (T : TX K mg) : ∃ fd, FunD K dl_ulaw_size.name dl_ulaw_size.qual dl_ulaw_size.params dl_ulaw_size.body dl_ulaw_size.scope [] dl_ulaw_size.kwd (dl_ulaw_size.adr K) fd := (dl_ulaw_size).funD rfl (T.c.def_ 79).1 (T.c.def_ 79).2
theorem f_ulaw_room (T : TX K mg) : ∃ fd, FunD K dl_ulaw_room.name dl_ulaw_room.qual dl_ulaw_room.params dl_ulaw_room.body dl_ulaw_room.scope [] dl_ulaw_room.kwd (dl_ulaw_room.adr K) fd := (dl_ulaw_room).funD rfl (T.c.def_ 80).1 (T.c.def_ 80).2
theorem f_ulaw_desk (T : TX K mg) : ∃ fd, FunD K dl_ulaw_desk.name dl_ulaw_desk.qual dl_ulaw_desk.params dl_ulaw_desk.body dl_ulaw_desk.scope [] dl_ulaw_desk.kwd (dl_ulaw_desk.adr K) fd := (dl_ulaw_desk).funD rfl (T.c.def_ 81).1 (T.c.def_ 81).2
theorem f_ulaw_operation (T : TX K mg) : ∃ fd, FunD K dl_ulaw_operation.name dl_ulaw_operation.qual dl_ulaw_operation.params dl_ulaw_operation.body dl_ulaw_operation.scope [] dl_ulaw_operation.kwd (dl_ulaw_operation.adr K) fd := (dl_ulaw_operation).funD rfl (T.c.def_ 82).1 (T.c.def_ 82).2
theorem f_ulaw_row (T : TX K mg) : ∃ fd, FunD K dl_ulaw_row.name dl_ulaw_row.qual dl_ulaw_row.params dl_ulaw_row.body dl_ulaw_row.scope [] dl_ulaw_row.kwd (dl_ulaw_row.adr K) fd := (dl_ulaw_row).funD rfl (T.c.def_ 83).1 (T.c.def_ 83).2
theorem f_ulaw_reached (T : TX K mg) : ∃ fd, FunD K dl_ulaw_reached.name dl_ulaw_reached.qual dl_ulaw_reached.params dl_ulaw_reached.body dl_ulaw_reached.scope [] dl_ulaw_reached.kwd (dl_ulaw_reached.adr K) fd := (dl_ulaw_reached).funD rfl (T.c.def_ 84).1 (T.c.def_ 84).2
theorem f_ulaw_plan (T : TX K mg) : ∃ fd, FunD K dl_ulaw_plan.name dl_ulaw_plan.qual dl_ulaw_plan.params dl_ulaw_plan.body dl_ulaw_plan.scope [] dl_ulaw_plan.kwd (dl_ulaw_plan.adr K) fd := (dl_ulaw_plan).funD rfl (T.c.def_ 85).1 (T.c.def_ 85).2
theorem f_ulaw_deed (T : TX K mg) : ∃ fd, FunD K dl_ulaw_deed.name dl_ulaw_deed.qual dl_ulaw_deed.params dl_ulaw_deed.body dl_ulaw_deed.scope [] dl_ulaw_deed.kwd (dl_ulaw_deed.adr K) fd := (dl_ulaw_deed).funD rfl (T.c.def_ 86).1 (T.c.def_ 86).2
theorem f_ulaw_due (T : TX K mg) : ∃ fd, FunD K dl_ulaw_due.name dl_ulaw_due.qual dl_ulaw_due.params dl_ulaw_due.body dl_ulaw_due.scope [] dl_ulaw_due.kwd (dl_ulaw_due.adr K) fd := (dl_ulaw_due).funD rfl (T.c.def_ 87).1 (T.c.def_ 87).2
theorem f_ulaw_attempts (T : TX K mg) : ∃ fd, FunD K dl_ulaw_attempts.name dl_ulaw_attempts.qual dl_ulaw_attempts.params dl_ulaw_attempts.body dl_ulaw_attempts.scope [] dl_ulaw_attempts.kwd (dl_ulaw_attempts.adr K) fd := (dl_ulaw_attempts).funD rfl (T.c.def_ 88).1 (T.c.def_ 88).2
theorem f_ulaw_told (T : TX K mg) : ∃ fd, FunD K dl_ulaw_told.name dl_ulaw_told.qual dl_ulaw_told.params dl_ulaw_told.body dl_ulaw_told.scope [] dl_ulaw_told.kwd (dl_ulaw_told.adr K) fd := (dl_ulaw_told).funD rfl (T.c.def_ 89).1 (T.c.def_ 89).2
theorem f_ulaw_seen (T : TX K mg) : ∃ fd, FunD K dl_ulaw_seen.name dl_ulaw_seen.qual dl_ulaw_seen.params dl_ulaw_seen.body dl_ulaw_seen.scope [] dl_ulaw_seen.kwd (dl_ulaw_seen.adr K) fd := (dl_ulaw_seen).funD rfl (T.c.def_ 90).1 (T.c.def_ 90).2
theorem f_ulaw_walked (T : TX K mg) : ∃ fd, FunD K dl_ulaw_walked.name dl_ulaw_walked.qual dl_ulaw_walked.params dl_ulaw_walked.body dl_ulaw_walked.scope [] dl_ulaw_walked.kwd (dl_ulaw_walked.adr K) fd := (dl_ulaw_walked).funD rfl (T.c.def_ 91).1 (T.c.def_ 91).2
theorem f_law (T : TX K mg) : ∃ fd, FunD K dl_law.name dl_law.qual dl_law.params dl_law.body dl_law.scope [] dl_law.kwd (dl_law.adr K) fd := (dl_law).funD rfl (T.c.def_ 92).1 (T.c.def_ 92).2
end
theorem n_check_size : FnScope ["size"] ["size"] (defScope st_check_size) := ⟨rfl, rfl, rfl, by decide +kernel, rfl, by decide +kernel, by decide +kernel⟩
theorem n_check_operation : FnScope ["size", "operation", "index"] ["size", "operation", "index"] (defScope st_check_operation) := ⟨rfl, rfl, rfl, by decide +kernel, rfl, by decide +kernel, by decide +kernel⟩
theorem n_check_gap : FnScope ["size", "gap"] ["size", "gap"] (defScope st_check_gap) := ⟨rfl, rfl, rfl, by decide +kernel, rfl, by decide +kernel, by decide +kernel⟩
theorem n_left_holds : FnScope ["links", "gap"] ["links", "gap"] (defScope st_left_holds) := ⟨rfl, rfl, rfl, by decide +kernel, rfl, by decide +kernel, by decide +kernel⟩
theorem n_right_holds : FnScope ["links", "gap"] ["links", "gap"] (defScope st_right_holds) := ⟨rfl, rfl, rfl, by decide +kernel, rfl, by decide +kernel, by decide +kernel⟩
theorem n_gap_state : FnScope ["links", "gap"] ["links", "gap"] (defScope st_gap_state) := ⟨rfl, rfl, rfl, by decide +kernel, rfl, by decide +kernel, by decide +kernel⟩
theorem n_gap_states : FnScope ["links", "gap"] ["links"] (defScope st_gap_states) := ⟨rfl, rfl, rfl, by decide +kernel, rfl, by decide +kernel, by decide +kernel⟩
theorem n_lost_gaps : FnScope ["links", "states", "gap", "state"] ["links"] (defScope st_lost_gaps) := ⟨rfl, rfl, rfl, by decide +kernel, rfl, by decide +kernel, by decide +kernel⟩
theorem n_foreign_writes : FnScope ["links", "operation", "node", "left", "right", "gaps"] ["links", "operation"] (defScope st_foreign_writes) := ⟨rfl, rfl, rfl, by decide +kernel, rfl, by decide +kernel, by decide +kernel⟩
theorem n_is_due : FnScope ["links", "node"] ["links", "node"] (defScope st_is_due) := ⟨rfl, rfl, rfl, by decide +kernel, rfl, by decide +kernel, by decide +kernel⟩
theorem n_ushare : FnScope ["links", "node"] ["links", "node"] (defScope st_ushare) := ⟨rfl, rfl, rfl, by decide +kernel, rfl, by decide +kernel, by decide +kernel⟩
theorem n_is_repairable : FnScope ["links"] ["links"] (defScope st_is_repairable) := ⟨rfl, rfl, rfl, by decide +kernel, rfl, by decide +kernel, by decide +kernel⟩
theorem n_due_nodes : FnScope ["links", "node"] ["links"] (defScope st_due_nodes) := ⟨rfl, rfl, rfl, by decide +kernel, rfl, by decide +kernel, by decide +kernel⟩
theorem n_settled_debt : FnScope ["links", "node"] ["links"] (defScope st_settled_debt) := ⟨rfl, rfl, rfl, by decide +kernel, rfl, by decide +kernel, by decide +kernel⟩
theorem n_check_mode : FnScope ["mode"] ["mode"] (defScope st_check_mode) := ⟨rfl, rfl, rfl, by decide +kernel, rfl, by decide +kernel, by decide +kernel⟩
theorem n_ucheck_legal : FnScope ["links", "operation", "index"] ["links", "operation", "index"] (defScope st_ucheck_legal) := ⟨rfl, rfl, rfl, by decide +kernel, rfl, by decide +kernel, by decide +kernel⟩
theorem n_ulast_holders : FnScope ["links", "operation", "before", "holders", "gap"] ["links", "operation"] (defScope st_ulast_holders) := ⟨rfl, rfl, rfl, by decide +kernel, rfl, by decide +kernel, by decide +kernel⟩
theorem n_uloses_gap : FnScope ["links", "operation"] ["links", "operation"] (defScope st_uloses_gap) := ⟨rfl, rfl, rfl, by decide +kernel, rfl, by decide +kernel, by decide +kernel⟩
theorem n_uleaves_sole_holder : FnScope ["links", "operation", "holder"] ["links", "operation"] (defScope st_uleaves_sole_holder) := ⟨rfl, rfl, rfl, by decide +kernel, rfl, by decide +kernel, by decide +kernel⟩
theorem n_uis_local : FnScope ["links", "operation", "node", "before", "behind"] ["links", "operation"] (defScope st_uis_local) := ⟨rfl, rfl, rfl, by decide +kernel, rfl, by decide +kernel, by decide +kernel⟩
theorem n_mode_named : FnScope ["mode"] ["mode"] (defScope st_mode_named) := ⟨rfl, rfl, rfl, by decide +kernel, rfl, by decide +kernel, by decide +kernel⟩
theorem n_refuser : FnScope ["links", "operation", "mode", "judge"] ["links", "operation", "mode"] (defScope st_refuser) := ⟨rfl, rfl, rfl, by decide +kernel, rfl, by decide +kernel, by decide +kernel⟩
theorem n_replay : FnScope ["size", "log", "links", "index", "operation"] ["size", "log"] (defScope st_replay) := ⟨rfl, rfl, rfl, by decide +kernel, rfl, by decide +kernel, by decide +kernel⟩
theorem n_BadOperation_init : NdefX.NScope ["self", "operation", "index", "__class__"] ["self", "operation", "index"] ["__class__"] (defScope st_BadOperation_init) := NdefX.nscope_by (by decide +kernel)
theorem n_Illegal_init : NdefX.NScope ["self", "operation", "index", "__class__"] ["self", "operation", "index"] ["__class__"] (defScope st_Illegal_init) := NdefX.nscope_by (by decide +kernel)
theorem n_Refused_init : NdefX.NScope ["self", "operation", "index", "refusing", "__class__"] ["self", "operation", "index", "refusing"] ["__class__"] (defScope st_Refused_init) := NdefX.nscope_by (by decide +kernel)
theorem n_Full_init : NdefX.NScope ["self", "capacity", "__class__"] ["self", "capacity"] ["__class__"] (defScope st_Full_init) := NdefX.nscope_by (by decide +kernel)
theorem n_Links_init : FnScope ["self", "size"] ["self", "size"] (defScope st_Links_init) := ⟨rfl, rfl, rfl, by decide +kernel, rfl, by decide +kernel, by decide +kernel⟩
theorem n_Links_built : FnScope ["size", "lefts", "rights", "flags", "links"] ["size", "lefts", "rights", "flags"] (defScope st_Links_built) := ⟨rfl, rfl, rfl, by decide +kernel, rfl, by decide +kernel, by decide +kernel⟩
theorem n_Links_left : FnScope ["self", "node"] ["self", "node"] (defScope st_Links_left) := ⟨rfl, rfl, rfl, by decide +kernel, rfl, by decide +kernel, by decide +kernel⟩
theorem n_Links_right : FnScope ["self", "node"] ["self", "node"] (defScope st_Links_right) := ⟨rfl, rfl, rfl, by decide +kernel, rfl, by decide +kernel, by decide +kernel⟩
theorem n_Links_is_out : FnScope ["self", "node"] ["self", "node"] (defScope st_Links_is_out) := ⟨rfl, rfl, rfl, by decide +kernel, rfl, by decide +kernel, by decide +kernel⟩
theorem n_Links_operation_on : FnScope ["self", "node"] ["self", "node"] (defScope st_Links_operation_on) := ⟨rfl, rfl, rfl, by decide +kernel, rfl, by decide +kernel, by decide +kernel⟩
theorem n_Links_apply : FnScope ["self", "operation"] ["self", "operation"] (defScope st_Links_apply) := ⟨rfl, rfl, rfl, by decide +kernel, rfl, by decide +kernel, by decide +kernel⟩
theorem n_Links_apply_at : FnScope ["self", "operation", "index", "node", "is_unlink", "low", "high"] ["self", "operation", "index"] (defScope st_Links_apply_at) := ⟨rfl, rfl, rfl, by decide +kernel, rfl, by decide +kernel, by decide +kernel⟩
theorem n_Links_copy : FnScope ["self"] ["self"] (defScope st_Links_copy) := ⟨rfl, rfl, rfl, by decide +kernel, rfl, by decide +kernel, by decide +kernel⟩
theorem n_Links_dump : FnScope ["self"] ["self"] (defScope st_Links_dump) := ⟨rfl, rfl, rfl, by decide +kernel, rfl, by decide +kernel, by decide +kernel⟩
theorem n_Links_udump_parts : FnScope ["self", "rights", "lefts", "outs", "link", "node"] ["self"] (defScope st_Links_udump_parts) := ⟨rfl, rfl, rfl, by decide +kernel, rfl, by decide +kernel, by decide +kernel⟩
theorem n_FreeMode_refusal : FnScope ["self", "links", "operation"] ["self", "links", "operation"] (defScope st_FreeMode_refusal) := ⟨rfl, rfl, rfl, by decide +kernel, rfl, by decide +kernel, by decide +kernel⟩
theorem n_SavingMode_refusal : NdefX.NScope ["self", "links", "operation", "__class__", "weaker"] ["self", "links", "operation"] ["__class__"] (defScope st_SavingMode_refusal) := NdefX.nscope_by (by decide +kernel)
theorem n_GuardedMode_refusal : NdefX.NScope ["self", "links", "operation", "__class__", "weaker"] ["self", "links", "operation"] ["__class__"] (defScope st_GuardedMode_refusal) := NdefX.nscope_by (by decide +kernel)
theorem n_CheckedMode_refusal : NdefX.NScope ["self", "links", "operation", "__class__", "weaker"] ["self", "links", "operation"] ["__class__"] (defScope st_CheckedMode_refusal) := NdefX.nscope_by (by decide +kernel)
theorem n_Trial_init : FnScope ["self", "desk"] ["self", "desk"] (defScope st_Trial_init) := ⟨rfl, rfl, rfl, by decide +kernel, rfl, by decide +kernel, by decide +kernel⟩
theorem n_Trial_enter : FnScope ["self"] ["self"] (defScope st_Trial_enter) := ⟨rfl, rfl, rfl, by decide +kernel, rfl, by decide +kernel, by decide +kernel⟩
theorem n_Trial_keep_changes : FnScope ["self"] ["self"] (defScope st_Trial_keep_changes) := ⟨rfl, rfl, rfl, by decide +kernel, rfl, by decide +kernel, by decide +kernel⟩
theorem n_Trial_exit : FnScope ["self", "kind", "value", "trace", "desk"] ["self", "kind", "value", "trace"] (defScope st_Trial_exit) := ⟨rfl, rfl, rfl, by decide +kernel, rfl, by decide +kernel, by decide +kernel⟩
theorem n_Desk_init : FnScope ["self", "size", "mode", "capacity"] ["self", "size", "mode", "capacity"] (defScope st_Desk_init) := ⟨rfl, rfl, rfl, by decide +kernel, rfl, by decide +kernel, by decide +kernel⟩
theorem n_Desk_length : FnScope ["self"] ["self"] (defScope st_Desk_length) := ⟨rfl, rfl, rfl, by decide +kernel, rfl, by decide +kernel, by decide +kernel⟩
theorem n_Desk_debt : FnScope ["self"] ["self"] (defScope st_Desk_debt) := ⟨rfl, rfl, rfl, by decide +kernel, rfl, by decide +kernel, by decide +kernel⟩
theorem n_Desk_mode : FnScope ["self"] ["self"] (defScope st_Desk_mode) := ⟨rfl, rfl, rfl, by decide +kernel, rfl, by decide +kernel, by decide +kernel⟩
theorem n_Desk_log : FnScope ["self"] ["self"] (defScope st_Desk_log) := ⟨rfl, rfl, rfl, by decide +kernel, rfl, by decide +kernel, by decide +kernel⟩
theorem n_Desk_links : FnScope ["self"] ["self"] (defScope st_Desk_links) := ⟨rfl, rfl, rfl, by decide +kernel, rfl, by decide +kernel, by decide +kernel⟩
theorem n_Desk_do : FnScope ["self", "operation"] ["self", "operation"] (defScope st_Desk_do) := ⟨rfl, rfl, rfl, by decide +kernel, rfl, by decide +kernel, by decide +kernel⟩
theorem n_Desk_attempt : FnScope ["self", "operations", "start", "trial"] ["self", "operations"] (defScope st_Desk_attempt) := ⟨rfl, rfl, rfl, by decide +kernel, rfl, by decide +kernel, by decide +kernel⟩
theorem n_Desk_undo : FnScope ["self", "start"] ["self"] (defScope st_Desk_undo) := ⟨rfl, rfl, rfl, by decide +kernel, rfl, by decide +kernel, by decide +kernel⟩
theorem n_Desk_redo : FnScope ["self", "operation"] ["self"] (defScope st_Desk_redo) := ⟨rfl, rfl, rfl, by decide +kernel, rfl, by decide +kernel, by decide +kernel⟩
theorem n_Desk_uwrite : FnScope ["self", "operation"] ["self", "operation"] (defScope st_Desk_uwrite) := ⟨rfl, rfl, rfl, by decide +kernel, rfl, by decide +kernel, by decide +kernel⟩
theorem n_Desk_ujudge : FnScope ["self", "operation", "index", "refusing"] ["self", "operation", "index"] (defScope st_Desk_ujudge) := ⟨rfl, rfl, rfl, by decide +kernel, rfl, by decide +kernel, by decide +kernel⟩
theorem n_Desk_uperform : FnScope ["self", "operations", "index", "operation"] ["self", "operations"] (defScope st_Desk_uperform) := ⟨rfl, rfl, rfl, by decide +kernel, rfl, by decide +kernel, by decide +kernel⟩
theorem n_Desk_udo_at : FnScope ["self", "operation", "index", "start"] ["self", "operation", "index"] (defScope st_Desk_udo_at) := ⟨rfl, rfl, rfl, by decide +kernel, rfl, by decide +kernel, by decide +kernel⟩
theorem n_Desk_uclose_step : FnScope ["self", "start"] ["self", "start"] (defScope st_Desk_uclose_step) := ⟨rfl, rfl, rfl, by decide +kernel, rfl, by decide +kernel, by decide +kernel⟩
theorem n_ulaw_draw : FnScope ["_law_bag", "_law_script", "_law_many", "_law_digit", "_law_cell", "_law_mixed"] ["_law_bag", "_law_script", "_law_many"] (defScope st_ulaw_draw) := ⟨rfl, rfl, rfl, by decide +kernel, rfl, by decide +kernel, by decide +kernel⟩
theorem n_ulaw_exact : FnScope ["_law_told_here", "_law_due_here", "_law_k"] ["_law_told_here", "_law_due_here"] (defScope st_ulaw_exact) := ⟨rfl, rfl, rfl, by decide +kernel, rfl, by decide +kernel, by decide +kernel⟩
theorem n_ulaw_refusal : FnScope ["_law_e", "_law_words", "_law_fields"] ["_law_e"] (defScope st_ulaw_refusal) := ⟨rfl, rfl, rfl, by decide +kernel, rfl, by decide +kernel, by decide +kernel⟩
theorem n_ulaw_error : FnScope ["_law_word", "_law_fields", "_law_words"] ["_law_word", "_law_fields"] (defScope st_ulaw_error) := ⟨rfl, rfl, rfl, by decide +kernel, rfl, by decide +kernel, by decide +kernel⟩
theorem n_ulaw_names : FnScope [] [] (defScope st_ulaw_names) := ⟨rfl, rfl, rfl, by decide +kernel, rfl, by decide +kernel, by decide +kernel⟩
theorem n_ulaw_whole : FnScope ["_law_size_here", "_law_rights", "_law_lefts", "_law_node"] ["_law_size_here"] (defScope st_ulaw_whole) := ⟨rfl, rfl, rfl, by decide +kernel, rfl, by decide +kernel, by decide +kernel⟩
theorem n_ulaw_after : FnScope ["_law_state", "_law_operation_here", "_law_rights", "_law_lefts", "_law_outs", "_law_node", "_law_low", "_law_high"] ["_law_state", "_law_operation_here"] (defScope st_ulaw_after) := ⟨rfl, rfl, rfl, by decide +kernel, rfl, by decide +kernel, by decide +kernel⟩
theorem n_ulaw_gap : FnScope ["_law_state", "_law_gap_here", "_law_by_left", "_law_by_right"] ["_law_state", "_law_gap_here"] (defScope st_ulaw_gap) := ⟨rfl, rfl, rfl, by decide +kernel, rfl, by decide +kernel, by decide +kernel⟩
theorem n_ulaw_gaps : FnScope ["_law_state", "_law_gap_here"] ["_law_state"] (defScope st_ulaw_gaps) := ⟨rfl, rfl, rfl, by decide +kernel, rfl, by decide +kernel, by decide +kernel⟩
theorem n_ulaw_foreign : FnScope ["_law_state", "_law_operation_here", "_law_node", "_law_low", "_law_high", "_law_found"] ["_law_state", "_law_operation_here"] (defScope st_ulaw_foreign) := ⟨rfl, rfl, rfl, by decide +kernel, rfl, by decide +kernel, by decide +kernel⟩
theorem n_ulaw_stands : FnScope ["_law_state", "_law_operation_here", "_law_node", "_law_low", "_law_high"] ["_law_state", "_law_operation_here"] (defScope st_ulaw_stands) := ⟨rfl, rfl, rfl, by decide +kernel, rfl, by decide +kernel, by decide +kernel⟩
theorem n_ulaw_refusing : FnScope ["_law_state", "_law_operation_here", "_law_level", "_law_before", "_law_changed", "_law_after_here", "_law_gap_here", "_law_holder"] ["_law_state", "_law_operation_here", "_law_level"] (defScope st_ulaw_refusing) := ⟨rfl, rfl, rfl, by decide +kernel, rfl, by decide +kernel, by decide +kernel⟩
theorem n_ulaw_due_nodes : FnScope ["_law_state", "_law_gaps_here", "_law_sole", "_law_gap_here", "_law_node"] ["_law_state"] (defScope st_ulaw_due_nodes) := ⟨rfl, rfl, rfl, by decide +kernel, rfl, by decide +kernel, by decide +kernel⟩
theorem n_ulaw_debt : FnScope ["_law_state", "_law_due_here", "_law_node"] ["_law_state"] (defScope st_ulaw_debt) := ⟨rfl, rfl, rfl, by decide +kernel, rfl, by decide +kernel, by decide +kernel⟩
theorem n_ulaw_dump : FnScope ["_law_state", "_law_first", "_law_second", "_law_third", "_law_link", "_law_node"] ["_law_state"] (defScope st_ulaw_dump) := ⟨rfl, rfl, rfl, by decide +kernel, rfl, by decide +kernel, by decide +kernel⟩
theorem n_ulaw_box : FnScope ["_law_size_here", "_law_level", "_law_room_here"] ["_law_size_here", "_law_level", "_law_room_here"] (defScope st_ulaw_box) := ⟨rfl, rfl, rfl, by decide +kernel, rfl, by decide +kernel, by decide +kernel⟩
theorem n_ulaw_add : FnScope ["_law_box_here", "_law_rows", "_law_state"] ["_law_box_here", "_law_rows", "_law_state"] (defScope st_ulaw_add) := ⟨rfl, rfl, rfl, by decide +kernel, rfl, by decide +kernel, by decide +kernel⟩
theorem n_ulaw_wrong : FnScope ["_law_box_here", "_law_rows", "_law_state", "_law_operation_here", "_law_index", "_law_name"] ["_law_box_here", "_law_rows", "_law_state", "_law_operation_here", "_law_index"] (defScope st_ulaw_wrong) := ⟨rfl, rfl, rfl, by decide +kernel, rfl, by decide +kernel, by decide +kernel⟩
theorem n_ulaw_size : FnScope ["_law_bag", "_law_script", "_law_choice"] ["_law_bag", "_law_script"] (defScope st_ulaw_size) := ⟨rfl, rfl, rfl, by decide +kernel, rfl, by decide +kernel, by decide +kernel⟩
theorem n_ulaw_room : FnScope ["_law_bag", "_law_script", "_law_choice"] ["_law_bag", "_law_script"] (defScope st_ulaw_room) := ⟨rfl, rfl, rfl, by decide +kernel, rfl, by decide +kernel, by decide +kernel⟩
theorem n_ulaw_desk : FnScope ["_law_size_here", "_law_level", "_law_room_here", "_law_name"] ["_law_size_here", "_law_level", "_law_room_here"] (defScope st_ulaw_desk) := ⟨rfl, rfl, rfl, by decide +kernel, rfl, by decide +kernel, by decide +kernel⟩
theorem n_ulaw_operation : FnScope ["_law_bag", "_law_script", "_law_state", "_law_base", "_law_level", "_law_size_here", "_law_choice", "_law_far", "_law_near", "_law_node", "_law_row_here", "_law_step", "_law_one"] ["_law_bag", "_law_script", "_law_state", "_law_base", "_law_level"] (defScope st_ulaw_operation) := ⟨rfl, rfl, rfl, by decide +kernel, rfl, by decide +kernel, by decide +kernel⟩
theorem n_ulaw_row : FnScope ["_law_bag", "_law_script", "_law_box_here", "_law_base", "_law_state", "_law_row_here", "_law_turn", "_law_operation_here", "_law_node"] ["_law_bag", "_law_script", "_law_box_here", "_law_base"] (defScope st_ulaw_row) := ⟨rfl, rfl, rfl, by decide +kernel, rfl, by decide +kernel, by decide +kernel⟩
theorem n_ulaw_reached : FnScope ["_law_box_here", "_law_row_here", "_law_rows", "_law_state", "_law_index", "_law_wrong_here"] ["_law_box_here", "_law_row_here"] (defScope st_ulaw_reached) := ⟨rfl, rfl, rfl, by decide +kernel, rfl, by decide +kernel, by decide +kernel⟩
theorem n_ulaw_plan : FnScope ["_law_bag", "_law_script", "_law_size_here", "_law_shift", "_law_row_here", "_law_one"] ["_law_bag", "_law_script", "_law_size_here"] (defScope st_ulaw_plan) := ⟨rfl, rfl, rfl, by decide +kernel, rfl, by decide +kernel, by decide +kernel⟩
theorem n_ulaw_deed : FnScope ["_law_bag", "_law_script", "_law_box_here", "_law_base", "_law_choice", "_law_state"] ["_law_bag", "_law_script", "_law_box_here", "_law_base"] (defScope st_ulaw_deed) := ⟨rfl, rfl, rfl, by decide +kernel, rfl, by decide +kernel, by decide +kernel⟩
theorem n_ulaw_due : FnScope ["_law_box_here", "_law_deed_here", "_law_wrong_here", "_law_rows", "_law_state"] ["_law_box_here", "_law_deed_here"] (defScope st_ulaw_due) := ⟨rfl, rfl, rfl, by decide +kernel, rfl, by decide +kernel, by decide +kernel⟩
theorem n_ulaw_attempts : FnScope ["_law_desk_here", "_law_row_here"] ["_law_desk_here", "_law_row_here"] (defScope st_ulaw_attempts) := ⟨rfl, rfl, rfl, by decide +kernel, rfl, by decide +kernel, by decide +kernel⟩
theorem n_ulaw_told : FnScope ["_law_desk_here", "_law_deed_here", "_law_e"] ["_law_desk_here", "_law_deed_here"] (defScope st_ulaw_told) := ⟨rfl, rfl, rfl, by decide +kernel, rfl, by decide +kernel, by decide +kernel⟩
theorem n_ulaw_seen : FnScope ["_law_desk_here", "_law_box_here", "_law_deep", "_law_rows", "_law_state", "_law_told_here", "_law_shown", "_law_numbers"] ["_law_desk_here", "_law_box_here", "_law_deep"] (defScope st_ulaw_seen) := ⟨rfl, rfl, rfl, by decide +kernel, rfl, by decide +kernel, by decide +kernel⟩
theorem n_ulaw_walked : FnScope ["_law_desk_here", "_law_box_here", "_law_word", "_law_turn", "_law_due_here"] ["_law_desk_here", "_law_box_here"] (defScope st_ulaw_walked) := ⟨rfl, rfl, rfl, by decide +kernel, rfl, by decide +kernel, by decide +kernel⟩
theorem n_law : FnScope ["_law_script", "_law_bag", "_law_size_here", "_law_level", "_law_room_here", "_law_box_here", "_law_desk_here", "_law_base", "_law_plan_here", "_law_turn", "_law_deed_here", "_law_wrong_here", "_law_rows", "_law_state", "_law_good", "_law_due_here"] ["_law_script"] (defScope st_law) := ⟨rfl, rfl, rfl, by decide +kernel, rfl, by decide +kernel, by decide +kernel⟩
end Lay
end
section
set_option Elab.async false
set_option linter.all false
set_option maxRecDepth 100000
set_option maxHeartbeats 0
namespace Lay
open PySem PySem.W PySem.Calls PyProof.Rows
abbrev R : OpenRow := OpenLaw.row PySem.Challenge.rw_latelink_k43_whole_attempts_are_all_or_n
abbrev qv : Program := view R.prog [101]
def nm0 : List PySem.Str := [PySem.Str.ofString "_wall", PySem.Str.ofString "__name__", PySem.Str.ofString "LinkError", PySem.Str.ofString "LogError", PySem.Str.ofString "BadOperation", PySem.Str.ofString "Illegal", PySem.Str.ofString "Refused", PySem.Str.ofString "BadSize", PySem.Str.ofString "BadNode", PySem.Str.ofString "BadGap", PySem.Str.ofString "BadMode", PySem.Str.ofString "BadDump", PySem.Str.ofString "BadCapacity", PySem.Str.ofString "NotRepairable", PySem.Str.ofString "Full", PySem.Str.ofString "NothingToUndo", PySem.Str.ofString "NothingToRedo", PySem.Str.ofString "MOST_NODES", PySem.Str.ofString "MOST_DIGITS", PySem.Str.ofString "check_size", PySem.Str.ofString "check_operation", PySem.Str.ofString "is_number", PySem.Str.ofString "check_gap", PySem.Str.ofString "left_holds", PySem.Str.ofString "right_holds", PySem.Str.ofString "gap_state", PySem.Str.ofString "gap_states", PySem.Str.ofString "lost_gaps", PySem.Str.ofString "foreign_writes", PySem.Str.ofString "check_repairable", PySem.Str.ofString "is_due", PySem.Str.ofString "_share", PySem.Str.ofString "is_repairable", PySem.Str.ofString "due_nodes", PySem.Str.ofString "settled_debt"]
def nm1 : List PySem.Str := [PySem.Str.ofString "debt_of", PySem.Str.ofString "PARTS", PySem.Str.ofString "_numbers", PySem.Str.ofString "_read_rights", PySem.Str.ofString "_read_lefts", PySem.Str.ofString "_read_outs", PySem.Str.ofString "Links", PySem.Str.ofString "MODES", PySem.Str.ofString "check_mode", PySem.Str.ofString "_check_legal", PySem.Str.ofString "_last_holders", PySem.Str.ofString "_loses_gap", PySem.Str.ofString "_leaves_sole_holder", PySem.Str.ofString "_is_local", PySem.Str.ofString "FreeMode", PySem.Str.ofString "SavingMode", PySem.Str.ofString "GuardedMode", PySem.Str.ofString "CheckedMode", PySem.Str.ofString "mode_named", PySem.Str.ofString "refuser", PySem.Str.ofString "replay", PySem.Str.ofString "lowers", PySem.Str.ofString "_first_lowering", PySem.Str.ofString "first_repair", PySem.Str.ofString "Trial", PySem.Str.ofString "Desk", PySem.Str.ofString "_law_draw", PySem.Str.ofString "_law_exact", PySem.Str.ofString "_law_refusal", PySem.Str.ofString "_law_error", PySem.Str.ofString "_law_names", PySem.Str.ofString "_law_whole", PySem.Str.ofString "_law_after", PySem.Str.ofString "_law_gap", PySem.Str.ofString "_law_gaps"]
def nm2 : List PySem.Str := [PySem.Str.ofString "_law_foreign", PySem.Str.ofString "_law_stands", PySem.Str.ofString "_law_refusing", PySem.Str.ofString "_law_due_nodes", PySem.Str.ofString "_law_debt", PySem.Str.ofString "_law_dump", PySem.Str.ofString "_law_box", PySem.Str.ofString "_law_add", PySem.Str.ofString "_law_wrong", PySem.Str.ofString "_law_size", PySem.Str.ofString "_law_room", PySem.Str.ofString "_law_desk", PySem.Str.ofString "_law_operation", PySem.Str.ofString "_law_row", PySem.Str.ofString "_law_reached", PySem.Str.ofString "_law_plan", PySem.Str.ofString "_law_deed", PySem.Str.ofString "_law_due", PySem.Str.ofString "_law_attempts", PySem.Str.ofString "_law_told", PySem.Str.ofString "_law_seen", PySem.Str.ofString "_law_walked"]
def names : List PySem.Str := nm0 ++ nm1 ++ nm2
/-- where the objects stand that the facts look at -/
def adL : List Addr := [3, 2, 6, 4, 21, 31, 44, 65, 86, 107, 128, 149, 170, 191, 212, 233, 254, 275, 287, 299, 308, 315, 322, 329,
  336, 343, 350, 355, 360, 367, 374, 381, 388, 395, 400, 405, 412, 417, 424, 431, 438, 597, 602, 609, 616, 623, 630, 637,
  644, 661, 684, 705, 726, 735, 742, 749, 756, 763, 770, 808, 979, 990, 995, 1002, 1009, 1016, 1021, 1028, 1035, 1040, 1047, 1054,
  1059, 1064, 1069, 1074, 1081, 1088, 1095, 1102, 1109, 1116, 1121, 1128, 1135, 1140, 1147, 1154, 1161, 1168, 1175, 1182, 1189, 0, 20, 30,
  43, 64, 85, 106, 127, 148, 169, 190, 211, 232, 253, 274, 286, 298, 307, 314, 321, 328, 335, 342, 349, 354, 359, 366,
  373, 380, 387, 394, 399, 404, 411, 416, 423, 430, 437, 596, 608, 615, 622, 629, 636, 643, 660, 683, 704, 725, 734, 741,
  748, 755, 762, 769, 807, 978, 989, 994, 1001, 1008, 1015, 1020, 1027, 1034, 1039, 1046, 1053, 1058, 1063, 1068, 1073, 1080, 1087, 1094,
  1101, 1108, 1115, 1120, 1127, 1134, 1139, 1146, 1153, 1160, 1167, 1174, 1181, 1188, 15, 16, 17, 18, 19, 29, 32, 42, 62, 63,
  83, 84, 104, 105, 125, 126, 146, 147, 167, 168, 188, 189, 209, 210, 230, 231, 251, 252, 272, 273, 285, 297, 302, 303,
  304, 305, 306, 309, 310, 311, 312, 313, 316, 317, 318, 319, 320, 323, 324, 325, 326, 327, 330, 331, 332, 333, 334, 337,
  338, 339, 340, 341, 344, 345, 346, 347, 348, 351, 352, 353, 356, 357, 358, 361, 362, 363, 364, 365, 368, 369, 370, 371,
  372, 375, 376, 377, 378, 379, 382, 383, 384, 385, 386, 389, 390, 391, 392, 393, 396, 397, 398, 401, 402, 403, 406, 407,
  408, 409, 410, 413, 414, 415, 418, 419, 420, 421, 422, 425, 426, 427, 428, 429, 432, 433, 434, 435, 436, 452, 461, 471,
  479, 486, 493, 498, 505, 512, 519, 526, 533, 540, 547, 554, 561, 566, 573, 580, 587, 594, 595, 598, 599, 603, 604, 605,
  606, 607, 610, 611, 612, 613, 614, 617, 618, 619, 620, 621, 624, 625, 626, 627, 628, 631, 632, 633, 634, 635, 638, 639,
  640, 641, 642, 658, 659, 662, 663, 681, 682, 702, 703, 723, 724, 729, 730, 731, 732, 733, 736, 737, 738, 739, 740, 743,
  744, 745, 746, 747, 750, 751, 752, 753, 754, 757, 758, 759, 760, 761, 764, 765, 766, 767, 768, 784, 791, 798, 805, 806,
  809, 810, 827, 837, 846, 854, 871, 878, 885, 892, 899, 906, 913, 920, 927, 934, 941, 948, 955, 962, 969, 976, 977, 980,
  981, 984, 985, 986, 987, 988, 991, 992, 993, 996, 997, 998, 999, 1000, 1003, 1004, 1005, 1006, 1007, 1010, 1011, 1012, 1013, 1014,
  1017, 1018, 1019, 1022, 1023, 1024, 1025, 1026, 1029, 1030, 1031, 1032, 1033, 1036, 1037, 1038, 1041, 1042, 1043, 1044, 1045, 1048, 1049, 1050,
  1051, 1052, 1055, 1056, 1057, 1060, 1061, 1062, 1065, 1066, 1067, 1070, 1071, 1072, 1075, 1076, 1077, 1078, 1079, 1082, 1083, 1084, 1085, 1086,
  1089, 1090, 1091, 1092, 1093, 1096, 1097, 1098, 1099, 1100, 1103, 1104, 1105, 1106, 1107, 1110, 1111, 1112, 1113, 1114, 1117, 1118, 1119, 1122,
  1123, 1124, 1125, 1126, 1129, 1130, 1131, 1132, 1133, 1136, 1137, 1138, 1141, 1142, 1143, 1144, 1145, 1148, 1149, 1150, 1151, 1152, 1155, 1156,
  1157, 1158, 1159, 1162, 1163, 1164, 1165, 1166, 1169, 1170, 1171, 1172, 1173, 1176, 1177, 1178, 1179, 1180, 1183, 1184, 1185, 1186, 1187, 61,
  50, 82, 71, 103, 92, 124, 113, 145, 134, 166, 155, 187, 176, 208, 197, 229, 218, 250, 239, 271, 260, 451, 459, 460,
  469, 470, 478, 485, 492, 497, 504, 511, 518, 525, 532, 539, 546, 553, 560, 565, 572, 579, 586, 593, 657, 680, 669, 701,
  690, 722, 711, 783, 790, 797, 804, 826, 820, 835, 836, 845, 853, 861, 870, 877, 884, 891, 898, 905, 912, 919, 926, 933,
  940, 947, 954, 961, 968, 975, 56, 57, 58, 59, 60, 77, 78, 79, 80, 81, 98, 99, 100, 101, 102, 119, 120, 121,
  122, 123, 140, 141, 142, 143, 144, 161, 162, 163, 164, 165, 182, 183, 184, 185, 186, 203, 204, 205, 206, 207, 224, 225,
  226, 227, 228, 245, 246, 247, 248, 249, 266, 267, 268, 269, 270, 446, 447, 448, 449, 450, 458, 462, 468, 472, 473, 474,
  475, 476, 477, 480, 481, 482, 483, 484, 487, 488, 489, 490, 491, 494, 495, 496, 499, 500, 501, 502, 503, 506, 507, 508,
  509, 510, 513, 514, 515, 516, 517, 520, 521, 522, 523, 524, 527, 528, 529, 530, 531, 534, 535, 536, 537, 538, 541, 542,
  543, 544, 545, 548, 549, 550, 551, 552, 555, 556, 557, 558, 559, 562, 563, 564, 567, 568, 569, 570, 571, 574, 575, 576,
  577, 578, 581, 582, 583, 584, 585, 588, 589, 590, 591, 592, 652, 653, 654, 655, 656, 675, 676, 677, 678, 679, 696, 697,
  698, 699, 700, 717, 718, 719, 720, 721, 778, 779, 780, 781, 782, 785, 786, 787, 788, 789, 792, 793, 794, 795, 796, 799,
  800, 801, 802, 803, 821, 822, 823, 824, 825, 834, 828, 838, 844, 852, 860, 869, 872, 873, 874, 875, 876, 879, 880, 881,
  882, 883, 886, 887, 888, 889, 890, 893, 894, 895, 896, 897, 900, 901, 902, 903, 904, 907, 908, 909, 910, 911, 914, 915,
  916, 917, 918, 921, 922, 923, 924, 925, 928, 929, 930, 931, 932, 935, 936, 937, 938, 939, 942, 943, 944, 945, 946, 949,
  950, 951, 952, 953, 956, 957, 958, 959, 960, 963, 964, 965, 966, 967, 970, 971, 972, 973, 974, 453, 454, 455, 456, 457,
  463, 464, 465, 466, 467, 829, 830, 831, 832, 833, 839, 840, 841, 842, 843, 847, 848, 849, 850, 851, 855, 856, 857, 858,
  859, 864, 865, 866, 867, 868]
def obsAG (as : List Addr) (fa : List (PySem.W.Frag → Bool)) (fn : List DefL) (g : Addr → Option Obj) : AlL := obsL fa fn (He.frG g as)
def hookA (as : List Addr) (fa : List (PySem.W.Frag → Bool)) (fn : List DefL) : PySem.W.Hook where
  α := AlL
  obs := fun s => obsAG as fa fn s.heap.get?
  val := fun _ => valL fn
  says := fun _ h => ∃ K : PySem.W.Frag, K.In h ∧ SaysL fa fn K
  of := fun _ _ e => ⟨_, He.frG_in, e⟩
  keeps := fun _ _ _ ⟨K, hK, c⟩ k => ⟨K, PySem.W.Frag.In.keeps hK k, c⟩
theorem obsAG_eq {as : List Addr} {fa : List (PySem.W.Frag → Bool)} {fn : List DefL} {g : Addr → Option Obj} {s : Shared} (h : ∀ a, g a = s.heap.get? a) : obsAG as fa fn g = (hookA as fa fn).obs s := by
  have e : g = s.heap.get? := funext h
  rw [e] <;> rfl
/-- two looks at one run are one look -/
theorem map_join {σ α β γ1 γ2 γ : Type} {X : Option σ} {a : σ → α} {b : σ → β} {o1 : σ → γ1} {o2 : σ → γ2} {o : σ → γ} {x : α} {y : β} {v1 : γ1} {v2 : γ2} {v : γ} (h1 : X.map (fun s => (a s, b s, o1 s)) = some (x, y, v1)) (h2 : X.map (fun s => (a s, b s, o2 s)) = some (x, y, v2)) (c : ∀ s, o1 s = v1 → o2 s = v2 → o s = v) : X.map (fun s => (a s, b s, o s)) = some (x, y, v) := by
  cases X with
  | none => cases h1
  | some s =>
    simp only [Option.map_some, Option.some.injEq, Prod.mk.injEq] at h1 h2 ⊢
    exact ⟨h1.1, h1.2.1, c s h1.2.2 h2.2.2⟩
theorem obs_join {fa : List (PySem.W.Frag → Bool)} {fn : List DefL} {K : PySem.W.Frag} (n m : Nat) (h1 : obsL (fa.take n) (fn.take m) K = valL (fn.take m)) (h2 : obsL (fa.drop n) (fn.drop m) K = valL (fn.drop m)) : obsL fa fn K = valL fn := by
  unfold obsL valL at h1 h2 ⊢
  simp only [Prod.mk.injEq, Bool.and_eq_true] at h1 h2 ⊢
  refine ⟨⟨?_, ?_⟩, ?_⟩
  · rw [← List.take_append_drop n fa, List.all_append, h1.1.1, h2.1.1]; rfl
  · rw [← List.take_append_drop m fn, List.all_append, h1.1.2, h2.1.2]; rfl
  · rw [← List.take_append_drop m fn, List.map_append, List.map_append, h1.2, h2.2]
abbrev hkL : Hook := hookA adL faL fnL
def obL (s : SharedT) : AlL := obsAG adL faL fnL (HandSHeadRun.getT s)
theorem obL_eq (s : SharedT) : obL s = hkL.obs s.abs := obsAG_eq (HandSHeadRun.getT_eq s)
abbrev fb1 : List (PySem.W.Frag → Bool) := faL.drop 180
abbrev nb1 : List DefL := fnL.drop 0
abbrev fb2 : List (PySem.W.Frag → Bool) := fb1.drop 1000
abbrev nb2 : List DefL := nb1.drop 0
abbrev fb3 : List (PySem.W.Frag → Bool) := fb2.drop 0
abbrev nb3 : List DefL := nb2.drop 47
def obN (fa : List (PySem.W.Frag → Bool)) (fn : List DefL) (s : SharedT) : AlL := obsAG adL fa fn (HandSHeadRun.getT s)
abbrev RunL (w : World) (fa : List (PySem.W.Frag → Bool)) (fn : List DefL) : Prop := HandSHeadRun.RunEq R qv (hookA adL fa fn) (obN fa fn) 10000 names w
theorem run1 (w : World) : RunL w (faL.take 180) (fnL.take 0) := by
  intro os
  kernel_rfl
theorem run2 (w : World) : RunL w (fb1.take 1000) (nb1.take 0) := by
  intro os
  kernel_rfl
theorem run3 (w : World) : RunL w (fb2.take 0) (nb2.take 47) := by
  intro os
  kernel_rfl
theorem run4 (w : World) : RunL w fb3 nb3 := by
  intro os
  kernel_rfl
theorem RunL.join {w : World} {fa : List (PySem.W.Frag → Bool)} {fn : List DefL} (n m : Nat) (h1 : RunL w (fa.take n) (fn.take m)) (h2 : RunL w (fa.drop n) (fn.drop m)) : RunL w fa fn := fun os => map_join (h1 os) (h2 os) fun s h1 h2 => obs_join n m h1 h2
theorem run (w : World) : HandSHeadRun.RunEq R qv hkL obL 10000 names w := RunL.join 180 0 (run1 w) (RunL.join 1000 0 (run2 w) (RunL.join 0 47 (run3 w) (run4 w)))
end Lay
end
section
set_option Elab.async false
set_option linter.all false
set_option autoImplicit false
set_option maxRecDepth 100000
set_option maxHeartbeats 4000000
/-! own layer I: the standing state as data -/
namespace Lay
open PySem PySem.Spec PyProof.Rows L2

theorem tab_length {α : Type} (m : Int) (f : Int → α) : (tab m f).length = m.toNat := by simp [tab]
theorem tab_get {α : Type} {m : Int} {f : Int → α} {k : Nat} (h : k < m.toNat) : (tab m f)[k]? = some (f k) := by
  unfold tab
  rw [List.getElem?_map, List.getElem?_range h]
  rfl
theorem tab_map {α β : Type} {m : Int} {f : Int → α} {g : α → β} : (tab m f).map g = tab m fun v => g (f v) := by
  unfold tab
  rw [List.map_map]
  rfl
theorem atI_tab {α : Type} {m : Int} {f : Int → α} {k : Int} (h0 : 0 ≤ k) (h1 : k < m) : atI (tab m f) k = some (f k) := by
  obtain ⟨n, rfl⟩ := Int.eq_ofNat_of_zero_le h0
  exact atI_nat (tab_get (by omega))
/-- a state: n nodes, links to the right, to the left, who is out -/
structure St where
  n : Int
  R : Int → Int
  L : Int → Int
  O : Int → Bool
structure Wf (s : St) : Prop where
  n0 : 0 ≤ s.n
  n1 : s.n ≤ 60
  r0 : ∀ v, 0 ≤ v → v ≤ s.n → v < s.R v
  r1 : ∀ v, 0 ≤ v → v ≤ s.n → s.R v ≤ s.n + 1
  rz : s.R (s.n + 1) = s.n + 2
  l0 : ∀ v, 1 ≤ v → v ≤ s.n + 1 → 0 ≤ s.L v
  l1 : ∀ v, 1 ≤ v → v ≤ s.n + 1 → s.L v < v
  lz : s.L 0 = -1
  o0 : s.O 0 = false
  o1 : s.O (s.n + 1) = false
abbrev St.dR (s : St) : DV := .l (tab (s.n + 1) fun v => .i (s.R v))
abbrev St.dL (s : St) : DV := .l (tab (s.n + 2) fun v => .i (s.L v))
abbrev St.dO (s : St) : DV := .l (tab (s.n + 2) fun v => .b (s.O v))
/-- the law's -/
abbrev St.D (s : St) : DV := .l [s.dR, s.dL, s.dO]
/-- the program's -/
abbrev St.K (s : St) : DV := .lk s.n s.R s.L s.O
def lh (s : St) (g : Int) : Bool := decide (s.R g = g + 1)
def rh (s : St) (g : Int) : Bool := decide (s.L (g + 1) = g)
def gapT (s : St) (g : Int) : Str := if lh s g then (if rh s g then "joined" else "left") else if rh s g then "right" else "lost"
theorem boot_len' : bootBuiltins "len" = some (.builtin "len") := by decide +kernel
theorem boot_abs' : bootBuiltins "abs" = some (.builtin "abs") := by decide +kernel
theorem boot_min' : bootBuiltins "min" = some (.builtin "min") := by decide +kernel
theorem boot_sum' : bootBuiltins "sum" = some (.builtin "sum") := by decide +kernel
theorem boot_str' : bootBuiltins "str" = some (.type "str") := by decide +kernel
theorem boot_int' : bootBuiltins "int" = some (.type "int") := by decide +kernel
theorem boot_list' : bootBuiltins "list" = some (.type "list") := by decide +kernel
theorem boot_tuple' : bootBuiltins "tuple" = some (.type "tuple") := by decide +kernel
section
variable {K : PySem.W.Frag} {te ta tb tl : TE} {tt tu : TT} {ts tr : TS} {tas : TA} {ss : List (Option DV)} {F : Hp} {P P' : DV → Hp → Prop} {a b d : DV} {N : List (Option DV) → Hp → Prop} {R : DV → Hp → Prop} {c c1 c2 : Bool} {ds es : List DV} {φ : List DV → DV → Prop} {E : L2.St → XK} {n : Int} {fR fL : Int → Int} {fO : Int → Bool}
theorem ints_rep {G : Hp} {p : Addr} {m : Int} {f : Int → Int} (h : G p = some (.lst ((tab m f).map V.int))) : Rep K G (.ref p) (.l (tab m fun v => .i (f v))) := by
  have r := RepL.ints (K := K) (G := G) (xs := tab m f)
  rw [tab_map (g := DV.i)] at r
  exact .l h r.1 r.2
theorem bools_rep {G : Hp} {p : Addr} {m : Int} {f : Int → Bool} (h : G p = some (.lst ((tab m f).map V.bl))) : Rep K G (.ref p) (.l (tab m fun v => .b (f v))) := by
  have r := RepL.bools (K := K) (G := G) (xs := tab m f)
  rw [tab_map (g := DV.b)] at r
  exact .l h r.1 r.2
theorem Rep.lk_inv {G : Hp} {x : V} (h : Rep K G x (.lk n fR fL fO)) : ∃ a, x = .ref a ∧ LkAt K G a n fR fL fO := by cases h with | lk h => exact ⟨_, rfl, h⟩
theorem EvD.lkSize (c : Cls K (He.ga K "Links")) (na : NoAttr K (He.ga K "Links") "size") (h : EvD K ta ss (.lk n fR fL fO)) : EvD K (tFld K ta "size") ss (.i n) := .mk fun σ G F o Q q => h.at o fun x G1 g1 rx => by
  obtain ⟨a, rfl, dx, l, r, f, h1, h2, h3, h4⟩ := rx.lk_inv
  exact ⟨a, _, dx, _, _, rfl, joi_l h1, c, na, rfl, q _ G1 g1 (.i _)⟩
theorem EvD.lkL (c : Cls K (He.ga K "Links")) (na : NoAttr K (He.ga K "Links") "_lefts") (h : EvD K ta ss (.lk n fR fL fO)) : EvD K (tFld K ta "_lefts") ss (.l (tab (n + 2) fun v => .i (fL v))) := .mk fun σ G F o Q q => h.at o fun x G1 g1 rx => by
  obtain ⟨a, rfl, dx, l, r, f, h1, h2, h3, h4⟩ := rx.lk_inv
  exact ⟨a, _, dx, _, _, rfl, joi_l h1, c, na, rfl, q _ G1 g1 (ints_rep h2)⟩
theorem EvD.lkR (c : Cls K (He.ga K "Links")) (na : NoAttr K (He.ga K "Links") "_rights") (h : EvD K ta ss (.lk n fR fL fO)) : EvD K (tFld K ta "_rights") ss (.l (tab (n + 2) fun v => .i (fR v))) := .mk fun σ G F o Q q => h.at o fun x G1 g1 rx => by
  obtain ⟨a, rfl, dx, l, r, f, h1, h2, h3, h4⟩ := rx.lk_inv
  exact ⟨a, _, dx, _, _, rfl, joi_l h1, c, na, rfl, q _ G1 g1 (ints_rep h3)⟩
theorem EvD.lkO (c : Cls K (He.ga K "Links")) (na : NoAttr K (He.ga K "Links") "_flags") (h : EvD K ta ss (.lk n fR fL fO)) : EvD K (tFld K ta "_flags") ss (.l (tab (n + 2) fun v => .b (fO v))) := .mk fun σ G F o Q q => h.at o fun x G1 g1 rx => by
  obtain ⟨a, rfl, dx, l, r, f, h1, h2, h3, h4⟩ := rx.lk_inv
  exact ⟨a, _, dx, _, _, rfl, joi_l h1, c, na, rfl, q _ G1 g1 (bools_rep h4)⟩
/-- links.m(e, ..) -/
theorem EvD.lkM {m : Str} (h : EvD K ta ss (.lk n fR fL fO)) (hs : EvAs K tas ss ds) (p : φ (.lk n fR fL fO :: ds) d) (hm : m ≠ "size" ∧ m ≠ "_lefts" ∧ m ≠ "_rights" ∧ m ≠ "_flags" := by decide +kernel) : EvD K (tMethE (He.ga K "Links") m (PD K (Pu φ)) E ta tas) ss d := fun F σ G o Q q => h.at o fun x G1 g1 rx => by
  have rx0 := rx
  obtain ⟨a, rfl, dx, l, r, f, h1, h2, h3, h4⟩ := rx.lk_inv
  refine ⟨a, dx, _, rfl, joi_l h1, ?_, hs.at (o.gr g1) fun vs G2 g2 rs => ⟨G2, F, _, _, rfl, g2.dj, g2.gG, g2.gF, (rx0.same g2.sm).consL rs, ⟨d, p, rfl, rfl⟩, q.gr (g1.trans g2)⟩⟩
  have n1 : (m == ("size" : Str)) = false := beq_eq_false_iff_ne.mpr hm.1
  have n2 : (m == ("_lefts" : Str)) = false := beq_eq_false_iff_ne.mpr hm.2.1
  have n3 : (m == ("_rights" : Str)) = false := beq_eq_false_iff_ne.mpr hm.2.2.1
  have n4 : (m == ("_flags" : Str)) = false := beq_eq_false_iff_ne.mpr hm.2.2.2
  simp only [List.lookup, n1, n2, n3, n4]
theorem EvF.evf (h : EvD K te ss d) (p : P d F) : EvF K te ss F P := EvD.evf h p
theorem EvT.evt {PB : Bool → Hp → Prop} (h : EvB K tt ss c) (p : PB c F) : EvT K tt ss F PB := EvB.evt h p
theorem EvA.eva {PA : List DV → Hp → Prop} (h : EvAs K tas ss ds) (p : PA ds F) : EvA K tas ss F PA := EvAs.eva h p
theorem RnF.never {ss : List (Option DV)} (h : False) : RnF K ts ss F N R := h.elim
/-- a test that is known -/
theorem RnF.ifT (hc : EvB K tt ss c) (e : c = true) (h1 : RnF K ts ss F N R) : RnF K (tIfS tt ts tr) ss F N R := .ifB hc (fun _ => h1) fun z => by rw [e] at z; cases z
theorem RnF.ifF (hc : EvB K tt ss c) (e : c = false) (h1 : RnF K tr ss F N R) : RnF K (tIfS tt ts tr) ss F N R := .ifB hc (fun z => by rw [e] at z; cases z) fun _ => h1
end
theorem boot_isinstance' : bootBuiltins "isinstance" = some (.builtin "isinstance") := by decide +kernel
end Lay
end
section
set_option Elab.async false
set_option linter.all false
set_option autoImplicit false
set_option maxRecDepth 100000
set_option maxHeartbeats 4000000
/-! own layer J: more readings over plain data -/
namespace Lay
open PySem PySem.Spec PyProof.Rows L2
def fil (lo hi : Int) (p : Int → Bool) (f : Int → DV) : List DV := ((List.range (hi - lo).toNat).filter fun k => p (lo + (k : Nat))).map fun k => f (lo + (k : Nat))
section
variable {K : PySem.W.Frag} {te ta tb tl : TE} {tt tu : TT} {ts tr : TS} {tas : TA} {ss : List (Option DV)} {F : Hp} {P P' : DV → Hp → Prop} {a b d : DV} {N : List (Option DV) → Hp → Prop} {R : DV → Hp → Prop} {c c1 c2 : Bool} {ds es : List DV} {φ : List DV → DV → Prop} {E : L2.St → XK}
theorem EvD.lcR1 {i : Nat} {hi : Int} {p : Int → Bool} {f : Int → DV} (h : EvD K tl ss (.i hi)) (ht : ∀ k, 0 ≤ k → k < hi → EvB K tt ((ss.set i none).set i (some (.i k))) (p k)) (he : ∀ k, 0 ≤ k → k < hi → p k = true → EvD K te ((ss.set i none).set i (some (.i k))) (f k)) (h1 : -1000 ≤ hi) (h2 : hi ≤ 1000) :
    EvD K (tLc (iRng1 (tCons tl tNil)) (gName i) tt te [i]) ss (.l (fil 0 hi p f)) := EvD.lcR (wi_range1 h (by omega) (by omega)) ht he (by rw [sizeLine_eq]; omega)
theorem EvD.lcR2 {i : Nat} {lo hi : Int} {p : Int → Bool} {f : Int → DV} (hl : EvD K ta ss (.i lo)) (h : EvD K tb ss (.i hi)) (ht : ∀ k, lo ≤ k → k < hi → EvB K tt ((ss.set i none).set i (some (.i k))) (p k)) (he : ∀ k, lo ≤ k → k < hi → p k = true → EvD K te ((ss.set i none).set i (some (.i k))) (f k))
    (h0 : -1000 ≤ lo) (h00 : lo ≤ 1000) (h1 : -1000 ≤ hi) (h2 : hi ≤ 1000) : EvD K (tLc (iRng2 (tCons ta (tCons tb tNil))) (gName i) tt te [i]) ss (.l (fil lo hi p f)) := EvD.lcR (wi_range2 hl h (by omega) (by omega) (by omega) (by omega)) ht he (by rw [sizeLine_eq]; omega)
theorem filter_true {α : Type} {l : List α} {p : α → Bool} (h : ∀ x, p x = true) : l.filter p = l := List.filter_eq_self.mpr fun x _ => h x
/-- no if -/
theorem EvD.lcY1 {i : Nat} {hi : Int} {f : Int → DV} (h : EvD K tl ss (.i hi)) (he : ∀ k, 0 ≤ k → k < hi → EvD K te ((ss.set i none).set i (some (.i k))) (f k)) (h1 : -1000 ≤ hi) (h2 : hi ≤ 1000) :
    EvD K (tLc (iRng1 (tCons tl tNil)) (gName i) tYes te [i]) ss (.l (tab hi f)) := by
  have z := EvD.lcR1 (p := fun _ => true) h (fun k _ _ => EvB.yes) (fun k a b _ => he k a b) h1 h2
  have e : fil 0 hi (fun _ => true) f = tab hi f := by
    unfold fil tab
    rw [filter_true (fun _ => rfl), Int.sub_zero]
    refine List.map_congr_left fun k _ => ?_
    rw [Int.zero_add]
  rwa [e] at z
theorem EvD.lcLY {i : Nat} {f : DV → DV} (hl : EvD K tl ss (.l es)) (he : ∀ d, d ∈ es → EvD K te ((ss.set i none).set i (some d)) (f d)) (hz : es.length ≤ 1000) : EvD K (tLc (iList K tl) (gName i) tYes te [i]) ss (.l (es.map f)) := by
  have z := EvD.lcL (p := fun _ => true) hl (fun d _ => EvB.yes) (fun d a _ => he d a) (by rw [sizeLine_eq]; omega)
  rwa [filter_true (fun _ => rfl)] at z
theorem wipe_set2 {σ : L2.St} {i j : Nat} {v u : V} (h : i ≠ j) : wipe (((wipe σ [i, j]).set i (some v)).set j (some u)) [i, j] = wipe σ [i, j] := by
  show ((((((σ.set j none).set i none).set i (some v)).set j (some u)).set j none).set i none) = (σ.set j none).set i none
  refine List.ext_getElem? fun k => ?_
  simp only [List.getElem?_set, List.length_set]
  by_cases h1 : i = k
  · subst h1
    simp [Ne.symm h]
  · by_cases h2 : j = k
    · subst h2
      simp [h1]
    · simp [h1, h2]
/-- [e for i, j in enumerate(xs) if t] -/
theorem EvD.lcEnum {i j : Nat} {p : Nat → Bool} {f : Nat → DV} (hij : i ≠ j) (hl : EvD K tl ss (.l es)) (ht : ∀ (k : Nat) d, es[k]? = some d → EvB K tt ((((ss.set j none).set i none).set i (some (.i (k : Nat)))).set j (some d)) (p k))
    (he : ∀ (k : Nat) d, es[k]? = some d → p k = true → EvD K te ((((ss.set j none).set i none).set i (some (.i (k : Nat)))).set j (some d)) (f k)) (hz : es.length ≤ 1000) :
    EvD K (tLc (iEnum K (tCons tl tNil)) (gTup K 2 (gCons (gName i) (gCons (gName j) gNil))) tt te [i, j]) ss (.l (((List.range es.length).filter p).map f)) := .mk fun σ G F o Q q => hl.at o fun x G1 g1 rx => by
  obtain ⟨a, vs0, rfl, ha, hr⟩ := rx.l_inv
  refine ⟨a, vs0, rfl, .of (joi_l ha), fun D hD => ?_⟩
  have hn := joi_none hD
  have base : Okk K G1 F σ ss := o.gr g1
  refine ⟨fun k m H => m = vs0.length - k ∧ k ≤ vs0.length ∧ Fill K G1 F D (((List.range k).filter p).map f) H, ⟨vs0.length, by simp, Nat.zero_le _, ⟨G1, [], .newF g1.dj g1.gG g1.gF hD, .nil, joi_put hn.1, rfl⟩⟩, ?_⟩
  rintro k m H ⟨rfl, hk, ⟨G', vs, g2, r, e, hl⟩⟩
  subst e
  have hG : G' D = none := (g2.dj D).resolve_right fun z => by rw [upd_same] at z; cases z
  have sq : SqL K (joi G' (upd F D (.lst vs))) a vs0 := .of (joi_l (g2.sm _ _ ha))
  by_cases hlt : k < vs0.length
  · refine .inr ⟨⟨vs0, vs0[k], sq, by simp [hlt]⟩, Fill K G1 F D (((List.range (k + 1)).filter p).map f), fun H' p' => ⟨vs0.length - (k + 1), by omega, rfl, hlt, p'⟩, ?_⟩
    rintro v H' ⟨Tt, x, rfl, hT, rfl, hx⟩
    have hx := hx vs0 sq
    have hke : k < es.length := by rw [← hr.1]; exact hlt
    have hd : es[k]? = some es[k] := List.getElem?_eq_getElem hke
    have g3 : Gr G' (upd G' Tt (.tup [.int (k : Nat), x])) (upd F D (.lst vs)) := .new g2.dj g2.gG g2.gF hT
    have rx := ((hr.2 k x _ hx hd).same g2.sm).same g3.sm
    rw [joi_new]
    refine ⟨Tt, _, rfl, .of (joi_l upd_same), rfl, .int (k : Nat), [x], rfl, x, [], rfl, rfl, wipe_set2 hij, ?_⟩
    have ok : Okk K (upd G' Tt (.tup [.int (k : Nat), x])) (upd F D (.lst vs)) (((wipe σ [i, j]).set i (some (.int (k : Nat)))).set j (some x)) ((((ss.set j none).set i none).set i (some (.i (k : Nat)))).set j (some es[k])) := ⟨(((sg_wipe base.sg [i, j]).same (g2.trans g3).sm).set (.i _)).set rx, g3.dj, g3.gG, g3.gF⟩
    refine (ht k _ hd).at ok fun G4 g4 => ?_
    have lenf : ((List.range k).filter p).length ≤ k := by
      have := List.length_filter_le p (List.range k)
      simpa using this
    have eu : ∀ ws : List V, upd (upd F D (.lst vs)) D (.lst ws) = upd F D (.lst ws) := fun ws => by
      funext b
      by_cases hb : b = D
      · subst hb; rw [upd_same, upd_same]
      · rw [upd_ne hb, upd_ne hb, upd_ne hb]
    cases hp : p k with
    | true =>
      rw [if_pos rfl]
      refine (he k _ hd hp).at (ok.gr g4) fun y G5 g5 ry => ?_
      have hG5 : G5 D = none := (g5.dj D).resolve_right fun z => by rw [upd_same] at z; cases z
      refine ⟨vs, by rw [joi_r hG5, upd_same], ?_, ?_⟩
      · rw [hl, List.length_map, sizeLine_eq]
        have h1 := hr.1
        omega
      · rw [joi_put hG5, eu]
        have g6 : Gr G5 G5 (upd (upd F D (.lst vs)) D (.lst (vs ++ [y]))) := .put g5.dj g5.gG g5.gF upd_same
        rw [eu] at g6
        have ea : (((List.range (k + 1)).filter p).map f) = (((List.range k).filter p).map f) ++ [f k] := by
          rw [List.range_succ, List.filter_append, List.map_append]
          congr 1
          simp [hp]
        rw [ea]
        exact ⟨G5, vs ++ [y], (((g2.trans g3).trans g4).trans g5).trans g6, (((r.same g3.sm).same g4.sm).same g5.sm).append (.cons ry .nil), rfl, by simp [hl]⟩
    | false =>
      rw [if_neg (by simp)]
      have ea : (((List.range (k + 1)).filter p).map f) = (((List.range k).filter p).map f) := by
        rw [List.range_succ, List.filter_append]
        simp [hp]
      rw [ea]
      exact ⟨G4, vs, (g2.trans g3).trans g4, (r.same g3.sm).same g4.sm, rfl, hl⟩
  · have ek : k = vs0.length := by omega
    subst ek
    refine .inl ⟨⟨vs0, sq, Nat.le_refl _⟩, ?_⟩
    rw [joi_ice hG]
    have g3 : Gr G' (upd G' D (.lst vs)) F := .ice g2.dj g2.gG o.gF hn.2
    rw [hr.1] at r
    exact q _ _ ((g1.trans ⟨g2.sm, g2.dj, g2.gG, g2.gF⟩).trans g3) (.l upd_same r.1 (r.same g3.sm).2)
end
end Lay
end
section
set_option Elab.async false
set_option linter.all false
set_option autoImplicit false
set_option maxRecDepth 100000
set_option maxHeartbeats 4000000
namespace Lay
open PySem PySem.Spec PyProof.Rows L2


def ph_right (ds : List DV) (d : DV) : Prop := ∃ s v, Wf s ∧ 0 ≤ v ∧ v ≤ s.n ∧ ds = [s.K, .i v] ∧ d = .i (s.R v)
def ph_left (ds : List DV) (d : DV) : Prop := ∃ s v, Wf s ∧ 1 ≤ v ∧ v ≤ s.n + 1 ∧ ds = [s.K, .i v] ∧ d = .i (s.L v)
def ph_isout (ds : List DV) (d : DV) : Prop := ∃ s v, Wf s ∧ 0 ≤ v ∧ v ≤ s.n + 1 ∧ ds = [s.K, .i v] ∧ d = .b (s.O v)
def opOn (s : St) (v : Int) : Int := if s.O v = true then v else -v
def ph_opon (ds : List DV) (d : DV) : Prop := ∃ s v, Wf s ∧ 0 ≤ v ∧ v ≤ s.n + 1 ∧ ds = [s.K, .i v] ∧ d = .i (opOn s v)
def ph_lh (ds : List DV) (d : DV) : Prop := ∃ s v, Wf s ∧ 0 ≤ v ∧ v ≤ s.n ∧ ds = [s.K, .i v] ∧ d = .b (lh s v)
def ph_rh (ds : List DV) (d : DV) : Prop := ∃ s v, Wf s ∧ 0 ≤ v ∧ v ≤ s.n ∧ ds = [s.K, .i v] ∧ d = .b (rh s v)
def ph_gapstate (ds : List DV) (d : DV) : Prop := ∃ s v, Wf s ∧ 0 ≤ v ∧ v ≤ s.n ∧ ds = [s.K, .i v] ∧ d = .s (gapT s v)
def ph_chkgap (ds : List DV) (d : DV) : Prop := ∃ n v : Int, 0 ≤ v ∧ v ≤ n ∧ ds = [.i n, .i v] ∧ d = .n
def ph_chksize (ds : List DV) (d : DV) : Prop := ∃ n : Int, 0 ≤ n ∧ n ≤ 60 ∧ ds = [.i n] ∧ d = .n
/-- an operation that is legal -/
structure Leg (s : St) (op : Int) : Prop where
  lo : 1 ≤ iabs op
  hi : iabs op ≤ s.n
  on : op = opOn s (iabs op)
section
variable {w : World} {K : PySem.W.Frag} {mg : Str → Option Value} {base : Heap}

theorem ok_Links_right (T : TX K mg) : FnR PW w K mg base CX0 1 (mA "Links" "right" K) (PD K (Pu ph_right)) := by
  obtain ⟨fd, F⟩ := f_Links_right T
  refine fnD_of F n_Links_right (F.bindsN fun _ _ _ _ _ _ us hl => match us, hl with | [_, _], _ => rfl) (fun ds F P ⟨d, ⟨_, _, _, _, _, e, _⟩, _⟩ => by rw [e]; rfl) fun cdv A outer s H E hr => ⟨_, PSs.nox
    (pss_cons (ps_if (pt_not (pt_chain op_le op_le pe_int (pv 1) (pe_fld (pv 0) rfl))) (pss_one ps_never) pss_nil)
      (pss_one (ps_ret (pe_ix ix_list (pe_fld (pv 0) rfl) (pv 1) (fun _ _ => rfl))))), fun ds F P h gF => ?_⟩
  obtain ⟨d, ⟨s, v, hW, h0, h1, rfl, rfl⟩, hP⟩ := h
  refine .seq (.ifF (.not (.chain .int (.var rfl) (fun _ => (.lkSize (c_Links T) (n_Links_size T) (.var rfl))))) (by simp only [Bool.not_eq_false', Bool.and_eq_true, decide_eq_true_eq]; omega) (.nil ?_))
  exact .ret (.evf (.ixL (.lkR (c_Links T) (n_Links_urights T) (.var rfl)) (.var rfl) (atI_tab h0 (by omega))) hP)

theorem ok_Links_left (T : TX K mg) : FnR PW w K mg base CX0 1 (mA "Links" "left" K) (PD K (Pu ph_left)) := by
  obtain ⟨fd, F⟩ := f_Links_left T
  refine fnD_of F n_Links_left (F.bindsN fun _ _ _ _ _ _ us hl => match us, hl with | [_, _], _ => rfl) (fun ds F P ⟨d, ⟨_, _, _, _, _, e, _⟩, _⟩ => by rw [e]; rfl) fun cdv A outer s H E hr => ⟨_, PSs.nox
    (pss_cons (ps_if (pt_not (pt_chain op_le op_le pe_int (pv 1) (pe_op op_add (pe_fld (pv 0) rfl) pe_int))) (pss_one ps_never) pss_nil)
      (pss_one (ps_ret (pe_ix ix_list (pe_fld (pv 0) rfl) (pv 1) (fun _ _ => rfl))))), fun ds F P h gF => ?_⟩
  obtain ⟨d, ⟨s, v, hW, h0, h1, rfl, rfl⟩, hP⟩ := h
  refine .seq (.ifF (.not (.chain .int (.var rfl) (fun _ => .add (.lkSize (c_Links T) (n_Links_size T) (.var rfl)) .int))) (by simp only [Bool.not_eq_false', Bool.and_eq_true, decide_eq_true_eq]; omega) (.nil ?_))
  exact .ret (.evf (.ixL (.lkL (c_Links T) (n_Links_ulefts T) (.var rfl)) (.var rfl) (atI_tab (by omega) (by omega))) hP)

theorem ok_Links_is_out (T : TX K mg) : FnR PW w K mg base CX0 1 (mA "Links" "is_out" K) (PD K (Pu ph_isout)) := by
  obtain ⟨fd, F⟩ := f_Links_is_out T
  refine fnD_of F n_Links_is_out (F.bindsN fun _ _ _ _ _ _ us hl => match us, hl with | [_, _], _ => rfl) (fun ds F P ⟨d, ⟨_, _, _, _, _, e, _⟩, _⟩ => by rw [e]; rfl) fun cdv A outer s H E hr => ⟨_, PSs.nox
    (pss_cons (ps_if (pt_not (pt_chain op_le op_le pe_int (pv 1) (pe_op op_add (pe_fld (pv 0) rfl) pe_int))) (pss_one ps_never) pss_nil)
      (pss_one (ps_ret (pe_ix ix_list (pe_fld (pv 0) rfl) (pv 1) (fun _ _ => rfl))))), fun ds F P h gF => ?_⟩
  obtain ⟨d, ⟨s, v, hW, h0, h1, rfl, rfl⟩, hP⟩ := h
  refine .seq (.ifF (.not (.chain .int (.var rfl) (fun _ => .add (.lkSize (c_Links T) (n_Links_size T) (.var rfl)) .int))) (by simp only [Bool.not_eq_false', Bool.and_eq_true, decide_eq_true_eq]; omega) (.nil ?_))
  exact .ret (.evf (.ixL (.lkO (c_Links T) (n_Links_uflags T) (.var rfl)) (.var rfl) (atI_tab (by omega) (by omega))) hP)

theorem ok_Links_operation_on (T : TX K mg) : FnR PW w K mg base CX0 1 (mA "Links" "operation_on" K) (PD K (Pu ph_opon)) := by
  obtain ⟨fd, F⟩ := f_Links_operation_on T
  refine fnD_of F n_Links_operation_on (F.bindsN fun _ _ _ _ _ _ us hl => match us, hl with | [_, _], _ => rfl) (fun ds F P ⟨d, ⟨_, _, _, _, _, e, _⟩, _⟩ => by rw [e]; rfl) fun cdv A outer s H E hr => ⟨_, PSs.nox
    (pss_one (ps_ret (pe_ifExp (pt_val (pe_ix ix_list (pe_fld (pv 0) rfl) (pv 1) (fun _ _ => rfl))) (pv 1) (pe_un un_neg (pv 1))))), fun ds F P h gF => ?_⟩
  obtain ⟨d, ⟨s, v, hW, h0, h1, rfl, rfl⟩, hP⟩ := h
  refine .ret (.evf (.ite (.val (.ixL (.lkO (c_Links T) (n_Links_uflags T) (.var rfl)) (.var rfl) (atI_tab (by omega) (by omega)))) (fun _ => .var rfl) (fun _ => .neg (.var rfl))) ?_)
  cases e : s.O v <;> simpa [opOn, e] using hP

theorem ok_left_holds (T : TX K mg) : FnR PW w K mg base CX0 2 (gA "left_holds" K) (PD K (Pu ph_lh)) := by
  obtain ⟨fd, F⟩ := f_left_holds T
  refine fnD_of F n_left_holds (F.bindsN fun _ _ _ _ _ _ us hl => match us, hl with | [_, _], _ => rfl) (fun ds F P ⟨d, ⟨_, _, _, _, _, e, _⟩, _⟩ => by rw [e]; rfl) fun cdv A outer s H E hr => ⟨_, PSs.nox
    (pss_one (ps_ret (pe_cmpR op_eq (pe_methE (pv 0) (c_Links T) (m_Links_right T) (ok_Links_right T) (hr.mono (by decide)) at0 (pa_cons (pv 1) pa_nil)) (pe_op op_add (pv 1) pe_int) (nomark _)))), fun ds F P h gF => ?_⟩
  obtain ⟨d, ⟨s, v, hW, h0, h1, rfl, rfl⟩, hP⟩ := h
  exact .ret (.evf (.eqI (.lkM (.var rfl) (.cons (.var rfl) .nil) ⟨s, v, hW, h0, h1, rfl, rfl⟩) (.add (.var rfl) .int)) hP)

theorem ok_right_holds (T : TX K mg) : FnR PW w K mg base CX0 2 (gA "right_holds" K) (PD K (Pu ph_rh)) := by
  obtain ⟨fd, F⟩ := f_right_holds T
  refine fnD_of F n_right_holds (F.bindsN fun _ _ _ _ _ _ us hl => match us, hl with | [_, _], _ => rfl) (fun ds F P ⟨d, ⟨_, _, _, _, _, e, _⟩, _⟩ => by rw [e]; rfl) fun cdv A outer s H E hr => ⟨_, PSs.nox
    (pss_one (ps_ret (pe_cmpR op_eq (pe_methE (pv 0) (c_Links T) (m_Links_left T) (ok_Links_left T) (hr.mono (by decide)) at0 (pa_cons (pe_op op_add (pv 1) pe_int) pa_nil)) (pv 1) (nomark _)))), fun ds F P h gF => ?_⟩
  obtain ⟨d, ⟨s, v, hW, h0, h1, rfl, rfl⟩, hP⟩ := h
  exact .ret (.evf (.eqI (.lkM (.var rfl) (.cons (.add (.var rfl) .int) .nil) ⟨s, v + 1, hW, by omega, by omega, rfl, rfl⟩) (.var rfl)) hP)

theorem ok_check_gap (T : TX K mg) : FnR PW w K mg base CX0 1 (gA "check_gap" K) (PD K (Pu ph_chkgap)) := by
  obtain ⟨fd, F⟩ := f_check_gap T
  refine fnD_of F n_check_gap (F.bindsN fun _ _ _ _ _ _ us hl => match us, hl with | [_, _], _ => rfl) (fun ds F P ⟨d, ⟨_, _, _, _, e, _⟩, _⟩ => by rw [e]; rfl) fun cdv A outer s H E hr => ⟨_, PSs.nox
    (pss_one (ps_if (pt_not (pt_chain op_le op_le pe_int (pv 1) (pv 0))) (pss_one ps_never) pss_nil)), fun ds F P h gF => ?_⟩
  obtain ⟨d, ⟨n, v, h0, h1, rfl, rfl⟩, hP⟩ := h
  exact .ifF (.not (.chain .int (.var rfl) (fun _ => .var rfl))) (by simp only [Bool.not_eq_false', Bool.and_eq_true, decide_eq_true_eq]; omega) (.nil hP)

theorem ok_check_size (T : TX K mg) : FnR PW w K mg base CX0 1 (gA "check_size" K) (PD K (Pu ph_chksize)) := by
  obtain ⟨fd, F⟩ := f_check_size T
  obtain ⟨tM, hMOST⟩ := i_MOST_NODES T
  refine fnD_of F n_check_size (F.bindsN fun _ _ _ _ _ _ us hl => match us, hl with | [_], _ => rfl) (fun ds F P ⟨d, ⟨_, _, _, e, _⟩, _⟩ => by rw [e]; rfl) fun cdv A outer s H E hr => ⟨_, PSs.nox
    (pss_one (ps_if (pt_not (pt_chain op_le op_le pe_int (pv 0) (pe_glob (v := .int 60) rfl hMOST ⟨_, rfl⟩))) (pss_one ps_never) pss_nil)), fun ds F P h gF => ?_⟩
  obtain ⟨d, ⟨n, h0, h1, rfl, rfl⟩, hP⟩ := h
  exact .ifF (.not (.chain .int (.var rfl) (fun _ => .int))) (by simp only [Bool.not_eq_false', Bool.and_eq_true, decide_eq_true_eq]; omega) (.nil hP)

theorem ok_gap_state (T : TX K mg) : FnR PW w K mg base CX0 3 (gA "gap_state" K) (PD K (Pu ph_gapstate)) := by
  obtain ⟨fd, F⟩ := f_gap_state T
  refine fnD_of F n_gap_state (F.bindsN fun _ _ _ _ _ _ us hl => match us, hl with | [_, _], _ => rfl) (fun ds F P ⟨d, ⟨_, _, _, _, _, e, _⟩, _⟩ => by rw [e]; rfl) fun cdv A outer s H E hr => ⟨_, PSs.nox
    (pss_cons (ps_expr (pe_callR (ok_check_gap T) (hr.mono (by decide)) rfl (g_check_gap T) (k_check_gap T) at0 (pa_cons (pe_fld (pv 0) rfl) (pa_cons (pv 1) pa_nil))))
      (pss_cons (ps_if (pt_val (pe_callR (ok_left_holds T) (hr.mono (by decide)) rfl (g_left_holds T) (k_left_holds T) at0 (pa_cons (pv 0) (pa_cons (pv 1) pa_nil)))) (pss_one (ps_ret (pe_ifExp (pt_val (pe_callR (ok_right_holds T) (hr.mono (by decide)) rfl (g_right_holds T) (k_right_holds T) at0 (pa_cons (pv 0) (pa_cons (pv 1) pa_nil)))) pe_str pe_str))) pss_nil)
      (pss_one (ps_ret (pe_ifExp (pt_val (pe_callR (ok_right_holds T) (hr.mono (by decide)) rfl (g_right_holds T) (k_right_holds T) at0 (pa_cons (pv 0) (pa_cons (pv 1) pa_nil)))) pe_str pe_str))))), fun ds F P h gF => ?_⟩
  obtain ⟨d, ⟨s, v, hW, h0, h1, rfl, rfl⟩, hP⟩ := h
  refine .seq (.drop (.evf (.call (.cons (.lkSize (c_Links T) (n_Links_size T) (.var rfl)) (.cons (.var rfl) .nil)) ⟨s.n, v, h0, h1, rfl, rfl⟩) ?_))
  refine .seq (.ifB (.val (.call (.cons (.var rfl) (.cons (.var rfl) .nil)) ⟨s, v, hW, h0, h1, rfl, rfl⟩)) (fun e1 => ?_) (fun e1 => .nil ?_))
  · refine .ret (.evf (.ite (.val (.call (.cons (.var rfl) (.cons (.var rfl) .nil)) ⟨s, v, hW, h0, h1, rfl, rfl⟩)) (fun _ => .str) (fun _ => .str)) ?_)
    cases e : rh s v <;> simpa [gapT, e1, e] using hP
  · refine .ret (.evf (.ite (.val (.call (.cons (.var rfl) (.cons (.var rfl) .nil)) ⟨s, v, hW, h0, h1, rfl, rfl⟩)) (fun _ => .str) (fun _ => .str)) ?_)
    cases e : rh s v <;> simpa [gapT, e1, e] using hP

end
end Lay
end
section
set_option Elab.async false
set_option linter.all false
set_option autoImplicit false
set_option maxRecDepth 100000
set_option maxHeartbeats 4000000
/-! own layer K: what may raise, over plain data -/
namespace Lay
open PySem PySem.Spec PyProof.Rows L2

/-- an exception's own dict on top of the heap -/
def XH (d : Option Addr) (fs : List (Str × V)) (H H' : Hp) : Prop := (d = none ∧ fs = [] ∧ H' = H) ∨ ∃ dd, d = some dd ∧ H dd = none ∧ H' = upd H dd (.xd fs)
abbrev XP : Type := Str → List (Str × V) → Hp → Prop
/-- any exception of PE is taken by E -/
def GoesX (K : PySem.W.Frag) (G : Hp) (PE : XP) (E : XK) : Prop := ∀ x fs G' F' d H', Gr G G' F' → PE x fs F' → XH d fs (joi G' F') H' → E (.ref (He.ga K x)) d H'
abbrev PhX : Type := List DV → Hp → (DV → Hp → Prop) → XP → Prop
def PDX (K : PySem.W.Frag) (Φ : PhX) : Sp := fun vs H Q E => ∃ G F ds P PE, H = joi G F ∧ Disj G F ∧ Good G ∧ Good F ∧ RepL K G vs ds ∧ Φ ds F P PE ∧ Goes K G P Q ∧ GoesX K G PE E
/-- a statement, a block that may raise -/
def RnX (K : PySem.W.Frag) (E : XK) (ts : TS) (ss : List (Option DV)) (F : Hp) (N : List (Option DV) → Hp → Prop) (R : DV → Hp → Prop) (PE : XP) : Prop :=
  ∀ σ G, Okk K G F σ ss → ∀ D : Ends, (∀ σ' ss' G' F', Gr G G' F' → Sg K G' σ' ss' → N ss' F' → D.nx σ' (joi G' F')) → Goes K G R D.rt → GoesX K G PE E → ts D σ (joi G F)
def EvX (K : PySem.W.Frag) (E : XK) (te : TE) (ss : List (Option DV)) (F : Hp) (P : DV → Hp → Prop) (PE : XP) : Prop := ∀ σ G, Okk K G F σ ss → ∀ Q : VK, Goes K G P Q → GoesX K G PE E → te σ (joi G F) Q
section
variable {K : PySem.W.Frag} {te ta tb : TE} {tt : TT} {ts tr : TS} {tas : TA} {ss : List (Option DV)} {F : Hp} {P : DV → Hp → Prop} {d : DV} {N : List (Option DV) → Hp → Prop} {R : DV → Hp → Prop} {c : Bool} {ds : List DV} {E : XK} {PE : XP} {Φ : PhX}
theorem GoesX.gr {G G' F' : Hp} (h : GoesX K G PE E) (g : Gr G G' F') : GoesX K G' PE E := fun x fs G2 F2 d H' g2 p z => h x fs G2 F2 d H' (g.trans g2) p z
theorem RnX.of (h : RnF K ts ss F N R) : RnX K E ts ss F N R PE := fun σ G o D nx rt _ => h σ G o D nx rt
theorem EvX.of (h : EvF K te ss F P) : EvX K E te ss F P PE := fun σ G o Q q _ => h σ G o Q q
theorem RnX.seq (h : RnX K E ts ss F (fun ss' F' => RnX K E tr ss' F' N R PE) R PE) : RnX K E (tSeq ts tr) ss F N R PE := fun σ G o D hN hR hX =>
  h σ G o { D with nx := tr D } (fun σ' ss' G' F' g s p => p σ' G' ⟨s, g.dj, g.gG, g.gF⟩ D (fun σ2 ss2 G2 F2 g2 s2 p2 => hN σ2 ss2 G2 F2 (g.trans g2) s2 p2) (hR.gr g) (hX.gr g)) hR hX
theorem RnX.nil (h : N ss F) : RnX K E tNext ss F N R PE := .of (.nil h)
theorem RnX.drop (h : EvX K E te ss F (fun _ F' => N ss F') PE) : RnX K E (tDrop te) ss F N R PE := fun σ G o D hN hR hX =>
  h σ G o _ (fun v d G' F' g r p => hN _ _ G' F' g (o.gr g).sg p) hX
theorem RnX.asg {i : Nat} (h : EvX K E te ss F (fun d F' => N (ss.set i (some d)) F') PE) : RnX K E (tAsg te (gName i)) ss F N R PE := fun σ G o D hN hR hX =>
  h σ G o _ (fun v d G' F' g r p => hN _ _ G' F' g ((o.gr g).sg.set r) p) hX
theorem RnX.ret (h : EvX K E te ss F R PE) : RnX K E (tRet te) ss F N R PE := fun σ G o D hN hR hX => h σ G o _ hR hX
theorem RnX.ifB (hc : EvB K tt ss c) (h1 : c = true → RnX K E ts ss F N R PE) (h2 : c = false → RnX K E tr ss F N R PE) : RnX K E (tIfS tt ts tr) ss F N R PE := fun σ G o D hN hR hX =>
  hc.at o fun G' g => by
    have p' : ∀ (u : TS), RnX K E u ss F N R PE → u D σ (joi G' F) := fun u hu => hu σ G' (o.gr g) D (fun σ2 ss2 G2 F2 g2 s2 p2 => hN σ2 ss2 G2 F2 (g.trans g2) s2 p2) (hR.gr g) (hX.gr g)
    cases c with
    | true => exact p' ts (h1 rfl)
    | false => exact p' tr (h2 rfl)
theorem RnX.ifT (hc : EvT K tt ss F fun c F' => if c = true then RnX K E ts ss F' N R PE else RnX K E tr ss F' N R PE) : RnX K E (tIfS tt ts tr) ss F N R PE := fun σ G o D hN hR hX =>
  hc σ G o _ fun c G' F' g p => by
    have p' : ∀ (u : TS), RnX K E u ss F' N R PE → u D σ (joi G' F') := fun u hu => hu σ G' (o.gr g) D (fun σ2 ss2 G2 F2 g2 s2 p2 => hN σ2 ss2 G2 F2 (g.trans g2) s2 p2) (hR.gr g) (hX.gr g)
    cases c with
    | true => exact p' ts p
    | false => exact p' tr p
/-- a call of what may raise -/
theorem EvX.call (h : EvA K tas ss F fun ds F' => Φ ds F' P PE) : EvX K E (tCallS (PDX K Φ) (fun _ => E) tas) ss F P PE := fun σ G o Q q hX => h σ G o _ fun vs ds G' F' g r p => ⟨G', F', ds, P, PE, rfl, g.dj, g.gG, g.gF, r, p, q.gr g, hX.gr g⟩
end

/-! ### the errors' own __init__ -/
def fldsOf (ns : List Str) (ws : List V) : List (Str × V) := (ns.zip ws).reverse
def spIni (C : Addr) (ns : List Str) : Sp := fun vs H Q _ => ∃ a ws, vs = .ref a :: ws ∧ ws.length = ns.length ∧ H a = some (exo a C none) ∧ ∀ d H', H' a = some (exo a C (some d)) → H' d = some (exd d (fldsOf ns ws)) → H d = none → d ≠ a → (∀ b, b ≠ a → b ≠ d → H' b = H b) → Q .non H'
section
variable {K : PySem.W.Frag} {ss : List (Option DV)} {F : Hp} {N : List (Option DV) → Hp → Prop} {R : DV → Hp → Prop} {E : XK} {PE : XP} {tas : TA} {x : Str} {ns : List Str} {ws : List V} {ds : List DV}
theorem RnX.raiseO (h : EvAs K tas ss ds) (hv : ∀ G vs, RepL K G vs ds → vs = ws) (hl : ws.length = ns.length) (hn : ns.length ≤ 100) (p : PE x (fldsOf ns ws) F) :
    RnX K E (fun _ σ H => tMkO (He.ga K x) (spIni (He.ga K x) ns) [] tas σ H fun cls d H' => (fun cls d (_ : L2.St) H => E cls d H) cls d σ H') ss F N R PE := fun σ G o D hN hR hX =>
  h.at o fun vs G1 g1 rs => by
    have ev := hv G1 vs rs
    subst ev
    refine ⟨by omega, fun a ha => ⟨a, vs, by rw [List.append_nil], hl, upd_same, fun d H' h1 h2 h3 h4 h5 => ⟨rfl, d, _, h1, h2, ?_, ?_⟩⟩⟩
    · rw [upd_ne h4] at h3
      exact h3
    · rw [upd_ne h4] at h3
      have e : upd (del H' a) d (.xd (fldsOf ns vs)) = upd (joi G1 F) d (.xd (fldsOf ns vs)) := by
        funext b
        by_cases hb : b = d
        · subst hb; rw [upd_same, upd_same]
        · rw [upd_ne hb, upd_ne hb]
          by_cases ha2 : b = a
          · subst ha2; rw [del_same, ha]
          · rw [del_ne ha2, h5 b ha2 hb, upd_ne ha2]
      rw [e]
      exact hX x _ G1 F (some d) _ g1 p (.inr ⟨d, rfl, h3, rfl⟩)
theorem RnX.raise0 (p : PE x [] F) : RnX K E (fun _ σ H => (fun (_ : L2.St) (H : Hp) (Q : XK) => Q (.ref (He.ga K x)) none H) σ H fun cls d H' => (fun cls d (_ : L2.St) H => E cls d H) cls d σ H') ss F N R PE := fun σ G o D hN hR hX =>
  hX x [] G F none _ o.refl p (.inl ⟨rfl, rfl, rfl⟩)
end
section
variable {P : Program} {w : World} {K : PySem.W.Frag} {mg : Str → Option Value} {base : Heap} {k : Nat} {f : Addr} {x qual : Str} {params : Arguments} {body : List Stmt} {scope : Scope} {fd : FuncData} {N ps : List Str} {Φ Ψ : PhX}
/-- THE RULE for a def that may raise -/
theorem fnX_of (F : FunD K x qual params body scope [] [] f fd) (S : FnScope N ps scope) (hb : Binds K fd ps []) (len : ∀ ds F P PE, Φ ds F P PE → ds.length = ps.length)
    (hbody : ∀ (cdv : Value) (A : Around) (outer : List Env) (s : Shared) (H : Hp) (E : XK), Room k (A.deeper (envOfC qual scope s.heap.objs.size f cdv)) →
      ∃ t, PSs (cxOf (L2.CX P w) P w K mg base N qual scope f cdv A outer s H E) body t ∧ ∀ ds F P PE, Φ ds F P PE → Good F → RnX K E t (stD N ds) F (fun _ F' => P .n F') P PE) : FnR P w K mg base (L2.CX P w) (k + 1) f (PDX K Φ) := by
  refine (FnOk.raw (FunD.ok F S (sp := PDX K Φ) (fun vs H Q E h => ?_) fun cdv A outer s H vs Q E hr h => ?_) hb .nil).imp fun vs H Q E h => by rw [List.append_nil]; exact h
  · obtain ⟨G, F, ds, P, PE, _, _, _, _, r, hΦ, _⟩ := h
    rw [r.1]
    exact len ds F P PE hΦ
  · obtain ⟨G, F, ds, P, PE, eH, dj, gG, gF, r, hΦ, go, gx⟩ := h
    obtain ⟨t, ht, hq⟩ := hbody cdv A outer s H E hr
    refine ⟨t, ht, ?_⟩
    subst eH
    exact hq ds F P PE hΦ gF _ G ⟨sg_start r, dj, gG, gF⟩ _ (fun σ' ss' G' F' g _ p => go .non .n G' F' g .n p) go gx
/-- where it raises nothing -/
theorem FnR.pure {φ : Ph} (F : FnR P w K mg base (L2.CX P w) k f (PDX K Φ)) (h : ∀ ds F P, φ ds F P → Φ ds F P fun _ _ _ => False) : FnR P w K mg base CX0 k f (PD K φ) :=
  (FnR.calm F).imp fun vs H Q E ⟨G, F, ds, P, a, b, c, d, e, hΦ, g⟩ => ⟨G, F, ds, P, _, a, b, c, d, e, h _ _ _ hΦ, g, fun _ _ _ _ _ _ _ z => z.elim⟩
theorem FnR.phX {CX : CXT} (F : FnR P w K mg base CX k f (PDX K Φ)) (h : ∀ ds F P PE, Ψ ds F P PE → Φ ds F P PE) : FnR P w K mg base CX k f (PDX K Ψ) := F.imp fun vs H Q E ⟨G, F, ds, P, PE, a, b, c, d, e, hΦ, g⟩ => ⟨G, F, ds, P, PE, a, b, c, d, e, h _ _ _ _ hΦ, g⟩
end
section
variable {K : PySem.W.Frag} {te ta tb tl : TE} {tt tu : TT} {ts tr : TS} {tas : TA} {ss : List (Option DV)} {F : Hp} {P P' : DV → Hp → Prop} {a b d : DV} {N : List (Option DV) → Hp → Prop} {R : DV → Hp → Prop} {c c1 c2 : Bool} {ds es : List DV}
theorem upd_upd {H : Hp} {p : Addr} {o u : HO} : upd (upd H p o) p u = upd H p u := by
  funext b
  by_cases hb : b = p
  · subst hb; rw [upd_same, upd_same]
  · rw [upd_ne hb, upd_ne hb, upd_ne hb]
theorem RnF.retIce {i : Nat} {p : Addr} {F0 : Hp} {vs : List V} (hv : ss[i]? = some (some (.m p))) (hF : F = upd F0 p (.lst vs)) (gF0 : Good F0) (hp : F0 p = none) (hr : ∀ G, RepL K G vs ds) (q : R (.l ds) F0) : RnF K (tRet (tVar i)) ss F N R :=
  .ret (EvF.ice (.evf (.var hv) ⟨rfl, hF⟩) hr (fun _ => gF0) hp (by rw [hF]; exact gF0.new hp rfl) q)
/-- x.append(e), the list of slot i last in F -/
theorem RnF.app {i : Nat} {p : Addr} {F0 : Hp} {vs : List V} {v0 : V} (hv : ss[i]? = some (some (.m p))) (he : EvD K te ss d) (hF : F = upd F0 p (.lst vs)) (hz : vs.length < 16777216) (hd : ∀ G v, Rep K G v d → v = v0) (hn : N ss (upd F0 p (.lst (vs ++ [v0])))) :
    RnF K (tDrop (tBM K "list" rAppend (tVar i) (tCons te tNil))) ss F N R := by
  refine RnF.append (.var hv) he (by rw [hF]; exact upd_same) (by rw [sizeLine_eq]; omega) fun v _ ⟨G, r⟩ => ?_
  rw [hd G v r, hF, upd_upd]
  exact hn
theorem EvD.modes {m : Addr} (h : ∀ H, SqT K H m [.str "free", .str "saving", .str "guarded", .str "checked"]) : EvD K (tC (.ref m)) ss (.t [.s "free", .s "saving", .s "guarded", .s "checked"]) := .mk fun σ G F o Q q =>
  q _ G o.refl (.t (h G) rfl (RepL.cons (.s _) (.cons (.s _) (.cons (.s _) (.cons (.s _) .nil)))).2)
theorem rep_i {G : Hp} {v : V} {i : Int} : Rep K G v (.i i) → v = .int i := Rep.int_inv
theorem rep_s {G : Hp} {v : V} {i : Str} : Rep K G v (.s i) → v = .str i := Rep.str_inv
end
end Lay
end
section
set_option Elab.async false
set_option linter.all false
set_option autoImplicit false
set_option maxRecDepth 100000
set_option maxHeartbeats 4000000
namespace Lay
open PySem PySem.Spec PyProof.Rows L2

section
variable {w : World} {K : PySem.W.Frag} {mg : Str → Option Value} {base : Heap}
theorem upd_get {H : Hp} {a b : Addr} {o : HO} : upd H a o b = if b = a then some o else H b := by
  by_cases h : b = a
  · subst h; rw [upd_same, if_pos rfl]
  · rw [upd_ne h, if_neg h]

theorem ok_BadOperation_init (T : TX K mg) : FnR PW w K mg base CX0 8 (mA "BadOperation" "__init__" K) (spIni (He.ga K "BadOperation") ["operation", "index"]) := by
  refine fnR_super (k := 7) (f_BadOperation_init T) n_BadOperation_init (fun cl doc pm cdv ct us hl => match us, hl with | [_, _, _], _ => rfl) (fun vs H Q E ⟨a, ws, e, hl, _⟩ => by rw [e, List.length_cons, hl]; rfl) fun c cc oc doc pm ct cl od cld osl csl A outer s H vs Q E lk lc hr h => ⟨_,
    pssA_cons (psA_expr (peA_superI n_BadOperation_init (sc_BadOperation_init T) lk lc rfl rfl rfl (List.Mem.head _) rfl (pa_cons pe_str pa_nil))) (pss_cons (ps_ost (pv 0) (pv 1)) (pss_one (ps_ost (pv 0) (pv 2)))), ?_⟩
  obtain ⟨a, ws, rfl, hl, ha, hq⟩ := h
  obtain ⟨v0, v1, rfl⟩ : ∃ v0 v1, ws = [v0, v1] := by
    match ws, hl with
    | [v0, v1], _ => exact ⟨_, _, rfl⟩
  refine ⟨a, _, rfl, ha, si_BadOperation T, ox_BadOperation T, by show 1 ≤ 1000; omega, ha, ?_⟩
  refine ⟨_, rfl, _, rfl, a, _, rfl, ox_BadOperation T, n_BadOperation_operation T, .inl ⟨ha, fun dx hdx hne => ?_⟩⟩
  refine ⟨_, rfl, _, rfl, a, _, rfl, ox_BadOperation T, n_BadOperation_index T, .inr ⟨dx, _, by simp [upd_get, hne, Ne.symm hne], by simp [upd_get, hne, Ne.symm hne] <;> rfl, by simp, ?_⟩⟩
  refine hq dx _ ?_ ?_ hdx hne fun b h1 h2 => ?_
  · simp [upd_get, hne, Ne.symm hne] <;> rfl
  · simp [upd_get, hne, Ne.symm hne] <;> rfl
  · simp [upd_get, h1, h2]

theorem ok_Illegal_init (T : TX K mg) : FnR PW w K mg base CX0 8 (mA "Illegal" "__init__" K) (spIni (He.ga K "Illegal") ["operation", "index"]) := by
  refine fnR_super (k := 7) (f_Illegal_init T) n_Illegal_init (fun cl doc pm cdv ct us hl => match us, hl with | [_, _, _], _ => rfl) (fun vs H Q E ⟨a, ws, e, hl, _⟩ => by rw [e, List.length_cons, hl]; rfl) fun c cc oc doc pm ct cl od cld osl csl A outer s H vs Q E lk lc hr h => ⟨_,
    pssA_cons (psA_expr (peA_superI n_Illegal_init (sc_Illegal_init T) lk lc rfl rfl rfl (List.Mem.head _) rfl (pa_cons pe_str pa_nil))) (pss_cons (ps_ost (pv 0) (pv 1)) (pss_one (ps_ost (pv 0) (pv 2)))), ?_⟩
  obtain ⟨a, ws, rfl, hl, ha, hq⟩ := h
  obtain ⟨v0, v1, rfl⟩ : ∃ v0 v1, ws = [v0, v1] := by
    match ws, hl with
    | [v0, v1], _ => exact ⟨_, _, rfl⟩
  refine ⟨a, _, rfl, ha, si_Illegal T, ox_Illegal T, by show 1 ≤ 1000; omega, ha, ?_⟩
  refine ⟨_, rfl, _, rfl, a, _, rfl, ox_Illegal T, n_Illegal_operation T, .inl ⟨ha, fun dx hdx hne => ?_⟩⟩
  refine ⟨_, rfl, _, rfl, a, _, rfl, ox_Illegal T, n_Illegal_index T, .inr ⟨dx, _, by simp [upd_get, hne, Ne.symm hne], by simp [upd_get, hne, Ne.symm hne] <;> rfl, by simp, ?_⟩⟩
  refine hq dx _ ?_ ?_ hdx hne fun b h1 h2 => ?_
  · simp [upd_get, hne, Ne.symm hne] <;> rfl
  · simp [upd_get, hne, Ne.symm hne] <;> rfl
  · simp [upd_get, h1, h2]

theorem ok_Refused_init (T : TX K mg) : FnR PW w K mg base CX0 8 (mA "Refused" "__init__" K) (spIni (He.ga K "Refused") ["operation", "index", "refusing"]) := by
  refine fnR_super (k := 7) (f_Refused_init T) n_Refused_init (fun cl doc pm cdv ct us hl => match us, hl with | [_, _, _, _], _ => rfl) (fun vs H Q E ⟨a, ws, e, hl, _⟩ => by rw [e, List.length_cons, hl]; rfl) fun c cc oc doc pm ct cl od cld osl csl A outer s H vs Q E lk lc hr h => ⟨_,
    pssA_cons (psA_expr (peA_superI n_Refused_init (sc_Refused_init T) lk lc rfl rfl rfl (List.Mem.head _) rfl (pa_cons pe_str pa_nil))) (pss_cons (ps_ost (pv 0) (pv 1)) (pss_cons (ps_ost (pv 0) (pv 2)) (pss_one (ps_ost (pv 0) (pv 3))))), ?_⟩
  obtain ⟨a, ws, rfl, hl, ha, hq⟩ := h
  obtain ⟨v0, v1, v2, rfl⟩ : ∃ v0 v1 v2, ws = [v0, v1, v2] := by
    match ws, hl with
    | [v0, v1, v2], _ => exact ⟨_, _, _, rfl⟩
  refine ⟨a, _, rfl, ha, si_Refused T, ox_Refused T, by show 1 ≤ 1000; omega, ha, ?_⟩
  refine ⟨_, rfl, _, rfl, a, _, rfl, ox_Refused T, n_Refused_operation T, .inl ⟨ha, fun dx hdx hne => ?_⟩⟩
  refine ⟨_, rfl, _, rfl, a, _, rfl, ox_Refused T, n_Refused_index T, .inr ⟨dx, _, by simp [upd_get, hne, Ne.symm hne], by simp [upd_get, hne, Ne.symm hne] <;> rfl, by simp, ?_⟩⟩
  refine ⟨_, rfl, _, rfl, a, _, rfl, ox_Refused T, n_Refused_refusing T, .inr ⟨dx, _, by simp [upd_get, hne, Ne.symm hne], by simp [upd_get, hne, Ne.symm hne] <;> rfl, by simp, ?_⟩⟩
  refine hq dx _ ?_ ?_ hdx hne fun b h1 h2 => ?_
  · simp [upd_get, hne, Ne.symm hne] <;> rfl
  · simp [upd_get, hne, Ne.symm hne] <;> rfl
  · simp [upd_get, h1, h2]

theorem ok_Full_init (T : TX K mg) : FnR PW w K mg base CX0 8 (mA "Full" "__init__" K) (spIni (He.ga K "Full") ["capacity"]) := by
  refine fnR_super (k := 7) (f_Full_init T) n_Full_init (fun cl doc pm cdv ct us hl => match us, hl with | [_, _], _ => rfl) (fun vs H Q E ⟨a, ws, e, hl, _⟩ => by rw [e, List.length_cons, hl]; rfl) fun c cc oc doc pm ct cl od cld osl csl A outer s H vs Q E lk lc hr h => ⟨_,
    pssA_cons (psA_expr (peA_superI n_Full_init (sc_Full_init T) lk lc rfl rfl rfl (List.Mem.head _) rfl (pa_cons pe_str pa_nil))) (pss_one (ps_ost (pv 0) (pv 1))), ?_⟩
  obtain ⟨a, ws, rfl, hl, ha, hq⟩ := h
  obtain ⟨v0, rfl⟩ : ∃ v0, ws = [v0] := by
    match ws, hl with
    | [v0], _ => exact ⟨_, rfl⟩
  refine ⟨a, _, rfl, ha, si_Full T, ox_Full T, by show 1 ≤ 1000; omega, ha, ?_⟩
  refine ⟨_, rfl, _, rfl, a, _, rfl, ox_Full T, n_Full_capacity T, .inl ⟨ha, fun dx hdx hne => ?_⟩⟩
  refine hq dx _ ?_ ?_ hdx hne fun b h1 h2 => ?_
  · simp [upd_get, hne, Ne.symm hne] <;> rfl
  · simp [upd_get, hne, Ne.symm hne] <;> rfl
  · simp [upd_get, h1, h2]

end
end Lay
end
section
set_option Elab.async false
set_option linter.all false
set_option autoImplicit false
set_option maxRecDepth 100000
set_option maxHeartbeats 4000000
namespace Lay
open PySem PySem.Spec PyProof.Rows L2


def BO (op ix : Int) : List (Str × V) := [("index", .int ix), ("operation", .int op)]
def px_chkop : PhX := fun ds F P PE => ∃ n op ix : Int, ds = [.i n, .i op, .i ix] ∧ (op = 0 ∨ n < iabs op → PE "BadOperation" (BO op ix) F) ∧ (¬ (op = 0 ∨ n < iabs op) → P .n F)
def ph_chkop (ds : List DV) (d : DV) : Prop := ∃ n op ix : Int, 1 ≤ iabs op ∧ iabs op ≤ n ∧ ds = [.i n, .i op, .i ix] ∧ d = .n
theorem iabs_zero {op : Int} (h : 1 ≤ iabs op) : op ≠ 0 := by
  intro z
  subst z
  unfold iabs at h
  simp at h
def ph_states (ds : List DV) (d : DV) : Prop := ∃ s, Wf s ∧ ds = [s.K] ∧ d = .l (tab (s.n + 1) fun g => .s (gapT s g))
def lostN (s : St) : List Nat := (List.range (s.n + 1).toNat).filter fun k => decide (gapT s (k : Nat) = "lost")
def ph_lost (ds : List DV) (d : DV) : Prop := ∃ s, Wf s ∧ ds = [s.K] ∧ d = .l ((lostN s).map fun k => .i (k : Nat))
def rep (s : St) : Bool := decide (((lostN s).length : Int) = 0)
def ph_rep (ds : List DV) (d : DV) : Prop := ∃ s, Wf s ∧ ds = [s.K] ∧ d = .b (rep s)
def due (s : St) (v : Int) : Bool := if s.O v = true then true else (decide (gapT s v = "left") || decide (gapT s (v - 1) = "right"))
def ph_due (ds : List DV) (d : DV) : Prop := ∃ s v, Wf s ∧ 1 ≤ v ∧ v ≤ s.n ∧ ds = [s.K, .i v] ∧ d = .b (due s v)
def share (s : St) (v : Int) : Int := if s.O v = true then 1 else 2
def ph_share (ds : List DV) (d : DV) : Prop := ∃ s v, Wf s ∧ 1 ≤ v ∧ v ≤ s.n ∧ ds = [s.K, .i v] ∧ d = .i (share s v)
def filI (lo hi : Int) (p : Int → Bool) : List Int := ((List.range (hi - lo).toNat).filter fun k => p (lo + (k : Nat))).map fun (k : Nat) => lo + (k : Int)
theorem fil_i {lo hi : Int} {p : Int → Bool} {f : Int → DV} : fil lo hi p f = (filI lo hi p).map f := by
  unfold fil filI
  rw [List.map_map]
  rfl
theorem mem_filI {lo hi v : Int} {p : Int → Bool} : v ∈ filI lo hi p ↔ lo ≤ v ∧ v < hi ∧ p v = true := by
  unfold filI
  simp only [List.mem_map, List.mem_filter, List.mem_range]
  constructor
  · rintro ⟨k, ⟨h1, h2⟩, rfl⟩
    exact ⟨by omega, by omega, h2⟩
  · rintro ⟨h1, h2, h3⟩
    refine ⟨(v - lo).toNat, ⟨by omega, ?_⟩, by omega⟩
    have e : lo + ((v - lo).toNat : Int) = v := by omega
    rw [e]
    exact h3
theorem filI_len {lo hi : Int} {p : Int → Bool} : (filI lo hi p).length ≤ (hi - lo).toNat := by
  unfold filI
  rw [List.length_map]
  have := List.length_filter_le (fun k : Nat => p (lo + (k : Nat))) (List.range (hi - lo).toNat)
  simpa using this
def dueL (s : St) : List Int := filI 1 (s.n + 1) (due s)
def ph_dues (ds : List DV) (d : DV) : Prop := ∃ s, Wf s ∧ ds = [s.K] ∧ d = .l ((dueL s).map DV.i)
def debtD (s : St) : DV := if rep s then .i ((dueL s).map (share s)).sum else .n
def ph_debt (ds : List DV) (d : DV) : Prop := ∃ s, Wf s ∧ ds = [s.K] ∧ d = debtD s
def fc1 (s : St) (v : Int) : Bool := !decide (s.L v = v - 1) && lh s (s.L v)
def fc2 (s : St) (v : Int) : Bool := !decide (s.R v = v + 1) && rh s (s.R v - 1)
def forL (s : St) (v : Int) : List Int := (if fc1 s v then [s.L v] else []) ++ (if fc2 s v then [s.R v - 1] else [])
def ph_foreign (ds : List DV) (d : DV) : Prop := ∃ s op, Wf s ∧ Leg s op ∧ ds = [s.K, .i op] ∧ d = .l ((forL s (iabs op)).map DV.i)
def modeN (k : Int) : Str := if k = 0 then "free" else if k = 1 then "saving" else if k = 2 then "guarded" else "checked"
def ph_chkmode (ds : List DV) (d : DV) : Prop := ∃ k : Int, 0 ≤ k ∧ k ≤ 3 ∧ ds = [.s (modeN k)] ∧ d = .n
def ph_chklegal (ds : List DV) (d : DV) : Prop := ∃ s op ix, Wf s ∧ Leg s op ∧ ds = [s.K, .i op, .i ix] ∧ d = .n
def holdV (s : St) (v g : Int) : V := if g = s.L v then (if rh s g then .int (g + 1) else .non) else (if lh s g then .int g else .non)
def ph_holders (ds : List DV) (d : DV) : Prop := ∃ s op, Wf s ∧ Leg s op ∧ ds = [s.K, .i op] ∧ d = .l ((forL s (iabs op)).map fun g => up (holdV s (iabs op) g))
def loses (s : St) (v : Int) : Bool := (forL s v).any fun g => isNon (holdV s v g)
def ph_loses (ds : List DV) (d : DV) : Prop := ∃ s op, Wf s ∧ Leg s op ∧ ds = [s.K, .i op] ∧ d = .b (loses s (iabs op))
def soleV (s : St) : V → Bool
  | .int h => !s.O h
  | _ => true
def soles (s : St) (v : Int) : Bool := (forL s v).any fun g => soleV s (holdV s v g)
def ph_soles (ds : List DV) (d : DV) : Prop := ∃ s op, Wf s ∧ Leg s op ∧ ds = [s.K, .i op] ∧ d = .b (soles s (iabs op))
def loc (s : St) (op : Int) : Bool := if (s.O (s.L (iabs op)) || s.O (s.R (iabs op))) = true then false else if op < 0 then (decide (s.R (s.L (iabs op)) = iabs op) && decide (s.L (s.R (iabs op)) = iabs op)) else (decide (s.R (s.L (iabs op)) = s.R (iabs op)) && decide (s.L (s.R (iabs op)) = s.L (iabs op)))
def ph_local (ds : List DV) (d : DV) : Prop := ∃ s op, Wf s ∧ Leg s op ∧ ds = [s.K, .i op] ∧ d = .b (loc s op)
section
variable {w : World} {K : PySem.W.Frag} {mg : Str → Option Value} {base : Heap}

theorem okx_check_operation (T : TX K mg) : FnR PW w K mg base (L2.CX PW w) 10 (gA "check_operation" K) (PDX K px_chkop) := by
  obtain ⟨fd, F⟩ := f_check_operation T
  refine fnX_of F n_check_operation (F.bindsN fun _ _ _ _ _ _ us hl => match us, hl with | [_, _, _], _ => rfl) (fun ds F P PE ⟨_, _, _, e, _⟩ => by rw [e]; rfl) fun cdv A outer s H E hr => ⟨_,
    (pss_one (ps_if (PW.pt (pw_or (pt_cmpR op_eq (pv 1) pe_int (nomark _)) (pw_or1 (pt_cmpR op_gt (pe_callB call_abs (by rfl) (b_abs T) boot_abs' (pa_cons (pv 1) pa_nil)) (pv 0) (nomark _))))) (pss_one (ps_raise rfl (takes_of rfl rfl rfl rfl) (pmk_oexR (ox_BadOperation T) (xi_BadOperation T).1 (xi_BadOperation T).2 (ok_BadOperation_init T) (hr.mono (by decide)) pass0 rfl (g_BadOperation T) (pa_cons (pv 1) (pa_cons (pv 2) pa_nil))))) pss_nil)), fun ds F P PE h gF => ?_⟩
  obtain ⟨n, op, ix, rfl, h1, h2⟩ := h
  refine .ifB (.or (.test (.eqI (.var rfl) .int)) (fun _ => .test (.gt (.abs (.var rfl)) (.var rfl)))) (fun e => ?_) (fun e => ?_)
  · exact .raiseO (x := "BadOperation") (ws := [.int op, .int ix]) (ds := [.i op, .i ix]) (.cons (.var rfl) (.cons (.var rfl) .nil)) (fun G vs r => by
      obtain ⟨v, u, rfl, r1, r2⟩ := r.two
      rw [r1.int_inv, r2.int_inv]) rfl (by decide) (h1 (by simpa using e))
  · refine .nil (h2 ?_)
    have e : (decide (op = 0) || decide (n < iabs op)) = false := e
    simpa using e

theorem ok_check_operation (T : TX K mg) : FnR PW w K mg base CX0 10 (gA "check_operation" K) (PD K (Pu ph_chkop)) :=
  FnR.pure (okx_check_operation T) fun ds F P ⟨d, ⟨n, op, ix, h1, h2, e, ed⟩, hP⟩ => ⟨n, op, ix, e, fun z => absurd z (by
    have := iabs_zero h1
    omega), fun _ => by rw [← ed]; exact hP⟩

theorem ok_gap_states (T : TX K mg) : FnR PW w K mg base CX0 4 (gA "gap_states" K) (PD K (Pu ph_states)) := by
  obtain ⟨fd, F⟩ := f_gap_states T
  refine fnD_of F n_gap_states (F.bindsN fun _ _ _ _ _ _ us hl => match us, hl with | [_], _ => rfl) (fun ds F P ⟨d, ⟨_, _, e, _⟩, _⟩ => by rw [e]; rfl) fun cdv A outer s H E hr => ⟨_, PSs.nox
    (pss_one (ps_ret (pe_lc (own := [("gap", 1)]) (g := gName 1) rfl n_gap_states.nd (pi_range1 (by rfl) (b_range T) (pa_cons (pe_op op_add (pe_fld (pv 0) rfl) pe_int) pa_nil)) (blkOk_by (own := [("gap", 1)]) (N := ["links", "gap"]) (sc := defScope st_gap_states) (by decide +kernel)) (fun _ _ _ _ _ => pg_name (i := 1) n_gap_states.nd rfl (Or.inl rfl)) (fun _ _ _ _ _ => pts_nil) (fun _ _ _ _ _ => (pe_callR (ok_gap_state T) (hr.mono (by decide)) rfl (g_gap_state T) (k_gap_state T) at0 (pa_cons (pv 0) (pa_cons (pv 1) pa_nil))))))), fun ds F P h gF => ?_⟩
  obtain ⟨d, ⟨s, hW, rfl, rfl⟩, hP⟩ := h
  have := hW.n0
  have := hW.n1
  exact .ret (.evf (.lcY1 (f := fun g => .s (gapT s g)) (.add (.lkSize (c_Links T) (n_Links_size T) (.var rfl)) .int) (fun g h0 h1 => .call (.cons (.var rfl) (.cons (.var rfl) .nil)) ⟨s, g, hW, h0, by omega, rfl, rfl⟩) (by omega) (by omega)) hP)

theorem ok_lost_gaps (T : TX K mg) : FnR PW w K mg base CX0 5 (gA "lost_gaps" K) (PD K (Pu ph_lost)) := by
  obtain ⟨fd, F⟩ := f_lost_gaps T
  refine fnD_of F n_lost_gaps (F.bindsN fun _ _ _ _ _ _ us hl => match us, hl with | [_], _ => rfl) (fun ds F P ⟨d, ⟨_, _, e, _⟩, _⟩ => by rw [e]; rfl) fun cdv A outer s H E hr => ⟨_, PSs.nox
    (pss_cons (ps_set (i := 1) n_lost_gaps.nd rfl (by first | exact .inl rfl | exact .inr rfl) (pe_callR (ok_gap_states T) (hr.mono (by decide)) rfl (g_gap_states T) (k_gap_states T) at0 (pa_cons (pv 0) pa_nil)))
      (pss_one (ps_ret (pe_lc (own := [("gap", 2), ("state", 3)]) (g := (gTup K 2 (gCons (gName 2) (gCons (gName 3) gNil)))) rfl n_lost_gaps.nd (pi_enum (by rfl) (b_enumerate T) (pa_cons (pv 1) pa_nil)) (blkOk_by (own := [("gap", 2), ("state", 3)]) (N := ["links", "states", "gap", "state"]) (sc := defScope st_lost_gaps) (by decide +kernel)) (fun _ _ _ _ _ => by exact pg_tup rfl (pgs_cons (pg_name (i := 2) n_lost_gaps.nd rfl (Or.inl rfl)) (pgs_cons (pg_name (i := 3) n_lost_gaps.nd rfl (Or.inl rfl)) pgs_nil))) (fun _ _ _ _ _ => pts_one (pt_cmpR op_eq (pv 3) pe_str (nomark _))) (fun _ _ _ _ _ => (pv 2)))))), fun ds F P h gF => ?_⟩
  obtain ⟨d, ⟨s, hW, rfl, rfl⟩, hP⟩ := h
  have := hW.n0
  have := hW.n1
  refine .seq (.asg (.evf (.call (.cons (.var rfl) .nil) ⟨s, hW, rfl, rfl⟩) ?_))
  refine .ret (.evf (.lcEnum (p := fun k => decide (gapT s (k : Nat) = "lost")) (f := fun k => .i (k : Nat)) (by decide) (.var rfl) (fun k d hd => ?_) (fun k d hd _ => .var rfl) (by rw [tab_length]; omega)) (by rw [tab_length]; exact hP))
  have hk : k < (s.n + 1).toNat := by
    have := (List.getElem?_eq_some_iff.mp hd).1
    rwa [tab_length] at this
  rw [tab_get hk] at hd
  cases hd
  exact .test (.eqS (.var rfl) .str)

theorem ok_is_repairable (T : TX K mg) : FnR PW w K mg base CX0 6 (gA "is_repairable" K) (PD K (Pu ph_rep)) := by
  obtain ⟨fd, F⟩ := f_is_repairable T
  refine fnD_of F n_is_repairable (F.bindsN fun _ _ _ _ _ _ us hl => match us, hl with | [_], _ => rfl) (fun ds F P ⟨d, ⟨_, _, e, _⟩, _⟩ => by rw [e]; rfl) fun cdv A outer s H E hr => ⟨_, PSs.nox
    (pss_one (ps_ret (pe_cmpR op_eq (pe_callB call_len_seq (by rfl) (b_len T) boot_len' (pa_cons (pe_callR (ok_lost_gaps T) (hr.mono (by decide)) rfl (g_lost_gaps T) (k_lost_gaps T) at0 (pa_cons (pv 0) pa_nil)) pa_nil)) pe_int (nomark _)))), fun ds F P h gF => ?_⟩
  obtain ⟨d, ⟨s, hW, rfl, rfl⟩, hP⟩ := h
  refine .ret (.evf (.eqI (.len (.call (.cons (.var rfl) .nil) ⟨s, hW, rfl, rfl⟩)) .int) ?_)
  rw [List.length_map]
  exact hP

theorem ok_is_due (T : TX K mg) : FnR PW w K mg base CX0 4 (gA "is_due" K) (PD K (Pu ph_due)) := by
  obtain ⟨fd, F⟩ := f_is_due T
  refine fnD_of F n_is_due (F.bindsN fun _ _ _ _ _ _ us hl => match us, hl with | [_, _], _ => rfl) (fun ds F P ⟨d, ⟨_, _, _, _, _, e, _⟩, _⟩ => by rw [e]; rfl) fun cdv A outer s H E hr => ⟨_, PSs.nox
    (pss_cons (ps_if (pt_val (pe_methE (pv 0) (c_Links T) (m_Links_is_out T) (ok_Links_is_out T) (hr.mono (by decide)) at0 (pa_cons (pv 1) pa_nil))) (pss_one (ps_ret pe_bl)) pss_nil)
      (pss_one (ps_ret (pe_or (pe_cmpR op_eq (pe_callR (ok_gap_state T) (hr.mono (by decide)) rfl (g_gap_state T) (k_gap_state T) at0 (pa_cons (pv 0) (pa_cons (pv 1) pa_nil))) pe_str (nomark _)) (pe_one (pe_cmpR op_eq (pe_callR (ok_gap_state T) (hr.mono (by decide)) rfl (g_gap_state T) (k_gap_state T) at0 (pa_cons (pv 0) (pa_cons (pe_op op_sub (pv 1) pe_int) pa_nil))) pe_str (nomark _))))))), fun ds F P h gF => ?_⟩
  obtain ⟨d, ⟨s, v, hW, h0, h1, rfl, rfl⟩, hP⟩ := h
  have := hW.n1
  refine .seq (.ifB (.val (.lkM (.var rfl) (.cons (.var rfl) .nil) ⟨s, v, hW, by omega, by omega, rfl, rfl⟩)) (fun e => .ret (.evf .bl ?_)) (fun e => .nil (.ret (.evf (.or (.eqS (.call (.cons (.var rfl) (.cons (.var rfl) .nil)) ⟨s, v, hW, by omega, by omega, rfl, rfl⟩) .str) (fun _ => .eqS (.call (.cons (.var rfl) (.cons (.sub (.var rfl) .int) .nil)) ⟨s, v - 1, hW, by omega, by omega, rfl, rfl⟩) .str)) ?_))))
  · simpa [due, e] using hP
  · simpa [due, e] using hP

theorem ok_ushare (T : TX K mg) : FnR PW w K mg base CX0 2 (gA "_share" K) (PD K (Pu ph_share)) := by
  obtain ⟨fd, F⟩ := f_ushare T
  refine fnD_of F n_ushare (F.bindsN fun _ _ _ _ _ _ us hl => match us, hl with | [_, _], _ => rfl) (fun ds F P ⟨d, ⟨_, _, _, _, _, e, _⟩, _⟩ => by rw [e]; rfl) fun cdv A outer s H E hr => ⟨_, PSs.nox
    (pss_cons (ps_if (pt_val (pe_methE (pv 0) (c_Links T) (m_Links_is_out T) (ok_Links_is_out T) (hr.mono (by decide)) at0 (pa_cons (pv 1) pa_nil))) (pss_one (ps_ret pe_int)) pss_nil)
      (pss_one (ps_ret pe_int))), fun ds F P h gF => ?_⟩
  obtain ⟨d, ⟨s, v, hW, h0, h1, rfl, rfl⟩, hP⟩ := h
  refine .seq (.ifB (.val (.lkM (.var rfl) (.cons (.var rfl) .nil) ⟨s, v, hW, by omega, by omega, rfl, rfl⟩)) (fun e => .ret (.evf .int ?_)) (fun e => .nil (.ret (.evf .int ?_))))
  · simpa [share, e] using hP
  · simpa [share, e] using hP

theorem ok_due_nodes (T : TX K mg) : FnR PW w K mg base CX0 5 (gA "due_nodes" K) (PD K (Pu ph_dues)) := by
  obtain ⟨fd, F⟩ := f_due_nodes T
  refine fnD_of F n_due_nodes (F.bindsN fun _ _ _ _ _ _ us hl => match us, hl with | [_], _ => rfl) (fun ds F P ⟨d, ⟨_, _, e, _⟩, _⟩ => by rw [e]; rfl) fun cdv A outer s H E hr => ⟨_, PSs.nox
    (pss_one (ps_ret (pe_lc (own := [("node", 1)]) (g := gName 1) rfl n_due_nodes.nd (pi_range2 (by rfl) (b_range T) (pa_cons pe_int (pa_cons (pe_op op_add (pe_fld (pv 0) rfl) pe_int) pa_nil))) (blkOk_by (own := [("node", 1)]) (N := ["links", "node"]) (sc := defScope st_due_nodes) (by decide +kernel)) (fun _ _ _ _ _ => pg_name (i := 1) n_due_nodes.nd rfl (Or.inl rfl)) (fun _ _ _ _ _ => pts_one (pt_val (pe_callR (ok_is_due T) (hr.mono (by decide)) rfl (g_is_due T) (k_is_due T) at0 (pa_cons (pv 0) (pa_cons (pv 1) pa_nil))))) (fun _ _ _ _ _ => (pv 1))))), fun ds F P h gF => ?_⟩
  obtain ⟨d, ⟨s, hW, rfl, rfl⟩, hP⟩ := h
  have := hW.n0
  have := hW.n1
  refine .ret (.evf (.lcR2 (p := due s) (f := fun g => .i g) .int (.add (.lkSize (c_Links T) (n_Links_size T) (.var rfl)) .int) (fun g h0 h1 => .val (.call (.cons (.var rfl) (.cons (.var rfl) .nil)) ⟨s, g, hW, h0, by omega, rfl, rfl⟩)) (fun g _ _ _ => .var rfl) (by omega) (by omega) (by omega) (by omega)) ?_)
  rw [fil_i]
  exact hP

theorem ok_settled_debt (T : TX K mg) : FnR PW w K mg base CX0 7 (gA "settled_debt" K) (PD K (Pu ph_debt)) := by
  obtain ⟨fd, F⟩ := f_settled_debt T
  refine fnD_of F n_settled_debt (F.bindsN fun _ _ _ _ _ _ us hl => match us, hl with | [_], _ => rfl) (fun ds F P ⟨d, ⟨_, _, e, _⟩, _⟩ => by rw [e]; rfl) fun cdv A outer s H E hr => ⟨_, PSs.nox
    (pss_cons (ps_if (pt_not (pt_val (pe_callR (ok_is_repairable T) (hr.mono (by decide)) rfl (g_is_repairable T) (k_is_repairable T) at0 (pa_cons (pv 0) pa_nil)))) (pss_one (ps_ret pe_non)) pss_nil)
      (pss_one (ps_ret (pe_callB (cr_sum rfl) (by rfl) (b_sum T) boot_sum' (pa_cons (pe_lc (own := [("node", 1)]) (g := gName 1) rfl n_settled_debt.nd (pi_list (pe_callR (ok_due_nodes T) (hr.mono (by decide)) rfl (g_due_nodes T) (k_due_nodes T) at0 (pa_cons (pv 0) pa_nil))) (blkOk_by (own := [("node", 1)]) (N := ["links", "node"]) (sc := defScope st_settled_debt) (by decide +kernel)) (fun _ _ _ _ _ => pg_name (i := 1) n_settled_debt.nd rfl (Or.inl rfl)) (fun _ _ _ _ _ => pts_nil) (fun _ _ _ _ _ => (pe_callR (ok_ushare T) (hr.mono (by decide)) rfl (g_ushare T) (k_ushare T) at0 (pa_cons (pv 0) (pa_cons (pv 1) pa_nil))))) pa_nil))))), fun ds F P h gF => ?_⟩
  obtain ⟨d, ⟨s, hW, rfl, rfl⟩, hP⟩ := h
  have := hW.n0
  have := hW.n1
  refine .seq (.ifB (.not (.val (.call (.cons (.var rfl) .nil) ⟨s, hW, rfl, rfl⟩))) (fun e => .ret (.evf .non ?_)) (fun e => .nil ?_))
  · have e : rep s = false := by simpa using e
    simpa [debtD, e] using hP
  · have e : rep s = true := by simpa using e
    have z : ∀ ss : List (Option DV), (dueL s).map DV.i = (dueL s).map DV.i := fun _ => rfl
    refine .ret (.evf (.sum (xs := (dueL s).map (share s)) ?_) (by simpa [debtD, e] using hP))
    have q := EvD.lcLY (K := K) (i := 1) (es := (dueL s).map DV.i) (ss := stD ["links", "node"] [s.K]) (tl := tCallS (PD K (Pu ph_dues)) (fun _ => E0) (tCons (tVar 0) tNil)) (f := fun d => match d with | .i k => .i (share s k) | _ => .n) (.call (.cons (.var rfl) .nil) ⟨s, hW, rfl, rfl⟩) (te := tCallS (PD K (Pu ph_share)) (fun _ => E0) (tCons (tVar 0) (tCons (tVar 1) tNil))) (fun d hd => ?_) (by
      have := filI_len (lo := 1) (hi := s.n + 1) (p := due s)
      rw [List.length_map]
      unfold dueL
      omega)
    · rw [List.map_map] at q ⊢
      exact q
    · obtain ⟨k, hk, rfl⟩ := List.mem_map.mp hd
      have hk := mem_filI.mp hk
      exact .call (.cons (.var rfl) (.cons (.var rfl) .nil)) ⟨s, k, hW, hk.1, by omega, rfl, rfl⟩

theorem ok_foreign_writes (T : TX K mg) : FnR PW w K mg base CX0 11 (gA "foreign_writes" K) (PD K (Pu ph_foreign)) := by
  obtain ⟨fd, F⟩ := f_foreign_writes T
  refine fnD_of F n_foreign_writes (F.bindsN fun _ _ _ _ _ _ us hl => match us, hl with | [_, _], _ => rfl) (fun ds F P ⟨d, ⟨_, _, _, _, e, _⟩, _⟩ => by rw [e]; rfl) fun cdv A outer s H E hr => ⟨_, PSs.nox
    (pss_cons (ps_expr (pe_callR (ok_check_operation T) (hr.mono (by decide)) rfl (g_check_operation T) (k_check_operation T) at0 (pa_cons (pe_fld (pv 0) rfl) (pa_cons (pv 1) (pa_cons pe_int pa_nil)))))
      (pss_cons (ps_set (i := 2) n_foreign_writes.nd rfl (by first | exact .inl rfl | exact .inr rfl) (pe_callB call_abs (by rfl) (b_abs T) boot_abs' (pa_cons (pv 1) pa_nil)))
      (pss_cons (ps_if (pt_cmpR op_ne (pe_methE (pv 0) (c_Links T) (m_Links_operation_on T) (ok_Links_operation_on T) (hr.mono (by decide)) at0 (pa_cons (pv 2) pa_nil)) (pv 1) (nomark _)) (pss_one ps_never) pss_nil)
      (pss_cons (ps_set (i := 3) n_foreign_writes.nd rfl (by first | exact .inl rfl | exact .inr rfl) (pe_methE (pv 0) (c_Links T) (m_Links_left T) (ok_Links_left T) (hr.mono (by decide)) at0 (pa_cons (pv 2) pa_nil)))
      (pss_cons (ps_set (i := 4) n_foreign_writes.nd rfl (by first | exact .inl rfl | exact .inr rfl) (pe_methE (pv 0) (c_Links T) (m_Links_right T) (ok_Links_right T) (hr.mono (by decide)) at0 (pa_cons (pv 2) pa_nil)))
      (pss_cons (ps_set (i := 5) n_foreign_writes.nd rfl (by first | exact .inl rfl | exact .inr rfl) (pe_lst pa_nil))
      (pss_cons (ps_if (PW.pt (pw_and (pt_cmpR op_ne (pv 3) (pe_op op_sub (pv 2) pe_int) (nomark _)) (pw_and1 (pt_val (pe_callR (ok_left_holds T) (hr.mono (by decide)) rfl (g_left_holds T) (k_left_holds T) at0 (pa_cons (pv 0) (pa_cons (pv 3) pa_nil))))))) (pss_one (ps_expr (pe_bm PySem.F.plainAttrs_list PySem.F.slot_list_append PySem.F.type_list_append mt_append (pv 5) (pa_cons (pv 3) pa_nil)))) pss_nil)
      (pss_cons (ps_if (PW.pt (pw_and (pt_cmpR op_ne (pv 4) (pe_op op_add (pv 2) pe_int) (nomark _)) (pw_and1 (pt_val (pe_callR (ok_right_holds T) (hr.mono (by decide)) rfl (g_right_holds T) (k_right_holds T) at0 (pa_cons (pv 0) (pa_cons (pe_op op_sub (pv 4) pe_int) pa_nil))))))) (pss_one (ps_expr (pe_bm PySem.F.plainAttrs_list PySem.F.slot_list_append PySem.F.type_list_append mt_append (pv 5) (pa_cons (pe_op op_sub (pv 4) pe_int) pa_nil)))) pss_nil)
      (pss_one (ps_ret (pv 5))))))))))), fun ds F P h gF => ?_⟩
  obtain ⟨d, ⟨s, op, hW, hL, rfl, rfl⟩, hP⟩ := h
  have n0 := hW.n0
  have l1 := hL.lo
  have l2 := hL.hi
  have a0 := hW.l0 (iabs op) l1 (by omega)
  have a1 := hW.l1 (iabs op) l1 (by omega)
  have b0 := hW.r0 (iabs op) (by omega) l2
  have b1 := hW.r1 (iabs op) (by omega) l2
  refine .seq (.drop (.evf (.call (.cons (.lkSize (c_Links T) (n_Links_size T) (.var rfl)) (.cons (.var rfl) (.cons .int .nil))) ⟨s.n, op, 0, l1, l2, rfl, rfl⟩) ?_))
  refine .seq (.asg (.evf (.abs (.var rfl)) ?_))
  refine .seq (.ifF (.test (.neI (.lkM (.var rfl) (.cons (.var rfl) .nil) ⟨s, iabs op, hW, by omega, by omega, rfl, rfl⟩) (.var rfl))) (by simp [← hL.on]) (.nil ?_))
  refine .seq (.asg (.evf (.lkM (.var rfl) (.cons (.var rfl) .nil) ⟨s, iabs op, hW, by omega, by omega, rfl, rfl⟩) ?_))
  refine .seq (.asg (.evf (.lkM (.var rfl) (.cons (.var rfl) .nil) ⟨s, iabs op, hW, by omega, by omega, rfl, rfl⟩) ?_))
  refine .seq (.asg (.nilF fun p hp => ?_))
  refine .seq (.ifB (c := fc1 s (iabs op)) (.and (.test (.neI (.var rfl) (.sub (.var rfl) .int))) (fun _ => .val (.call (.cons (.var rfl) (.cons (.var rfl) .nil)) ⟨s, s.L (iabs op), hW, a0, by omega, rfl, rfl⟩))) (fun e1 => ?_) (fun e1 => .nil ?_))
  · refine RnF.app (i := 5) (vs := []) rfl (.var rfl) rfl (by simp) (fun G v => rep_i) ?_
    refine .seq (.ifB (c := fc2 s (iabs op)) (.and (.test (.neI (.var rfl) (.add (.var rfl) .int))) (fun _ => .val (.call (.cons (.var rfl) (.cons (.sub (.var rfl) .int) .nil)) ⟨s, s.R (iabs op) - 1, hW, by omega, by omega, rfl, rfl⟩))) (fun e2 => ?_) (fun e2 => .nil ?_))
    · refine RnF.app (i := 5) rfl (.sub (.var rfl) .int) rfl (by simp) (fun G v => rep_i) ?_
      refine RnF.retIce rfl rfl gF hp (fun G => RepL.ints (xs := [s.L (iabs op), s.R (iabs op) - 1])) ?_
      simpa [forL, e1, e2] using hP
    · refine RnF.retIce rfl rfl gF hp (fun G => RepL.ints (xs := [s.L (iabs op)])) ?_
      simpa [forL, e1, e2] using hP
  · refine .seq (.ifB (c := fc2 s (iabs op)) (.and (.test (.neI (.var rfl) (.add (.var rfl) .int))) (fun _ => .val (.call (.cons (.var rfl) (.cons (.sub (.var rfl) .int) .nil)) ⟨s, s.R (iabs op) - 1, hW, by omega, by omega, rfl, rfl⟩))) (fun e2 => ?_) (fun e2 => .nil ?_))
    · refine RnF.app (i := 5) (vs := []) rfl (.sub (.var rfl) .int) rfl (by simp) (fun G v => rep_i) ?_
      refine RnF.retIce rfl rfl gF hp (fun G => RepL.ints (xs := [s.R (iabs op) - 1])) ?_
      simpa [forL, e1, e2] using hP
    · refine RnF.retIce rfl rfl gF hp (fun G => RepL.ints (xs := [])) ?_
      simpa [forL, e1, e2] using hP

end
end Lay
end
section
set_option Elab.async false
set_option linter.all false
set_option autoImplicit false
set_option maxRecDepth 100000
set_option maxHeartbeats 4000000
namespace Lay
open PySem PySem.Spec PyProof.Rows L2


/-- what a mode refuses -/
def refT (s : St) (op : Int) (k : Int) : Str :=
  if 1 ≤ k ∧ loses s (iabs op) = true then "saving" else if 2 ≤ k ∧ soles s (iabs op) = true then "guarded" else if 3 ≤ k ∧ loc s op = false then "checked" else ""
section
variable {w : World} {K : PySem.W.Frag} {mg : Str → Option Value} {base : Heap}
theorem modeN_in {k : Int} (h0 : 0 ≤ k) (h1 : k ≤ 3) : inD (.s (modeN k)) [.s "free", .s "saving", .s "guarded", .s "checked"] = true := by
  have : k = 0 ∨ k = 1 ∨ k = 2 ∨ k = 3 := by omega
  rcases this with rfl | rfl | rfl | rfl <;> decide +kernel
theorem loc_v {v : V} {d : DV} (hv : flat0 v) (hr : ∀ a, v ≠ .ref a) : d = up v → ∀ (G : Hp) u, Rep K G u d → u = v := by
  intro e G u r
  subst e
  cases v <;> first | exact hv.elim | exact absurd rfl (hr _) | (cases r; rfl)
theorem holdV_flat (s : St) (v g : Int) : flat0 (holdV s v g) ∧ ∀ a, holdV s v g ≠ .ref a := by
  unfold holdV
  split <;> split <;> exact ⟨True.intro, fun a z => by cases z⟩
theorem up_none {v : V} (hv : flat0 v) (hr : ∀ a, v ≠ .ref a) : eqF (up v) .n = isNon v := by
  cases v <;> first | exact hv.elim | exact absurd rfl (hr _) | rfl
theorem forL_ok {s : St} {op : Int} (hW : Wf s) (hL : Leg s op) {g : Int} (h : g ∈ forL s (iabs op)) : (g = s.L (iabs op) ∧ s.L (iabs op) ≠ iabs op - 1) ∨ (g = s.R (iabs op) - 1 ∧ s.R (iabs op) ≠ iabs op + 1 ∧ g ≠ s.L (iabs op)) := by
  have l1 := hL.lo
  have l2 := hL.hi
  have n0 := hW.n0
  have a1 := hW.l1 (iabs op) l1 (by omega)
  have b0 := hW.r0 (iabs op) (by omega) l2
  unfold forL at h
  rcases List.mem_append.mp h with h | h
  · split at h
    · rename_i e
      refine .inl ⟨by simpa using h, ?_⟩
      unfold fc1 at e
      simp only [Bool.and_eq_true, Bool.not_eq_true', decide_eq_false_iff_not] at e
      exact e.1
    · cases h
  · split at h
    · rename_i e
      have h : g = s.R (iabs op) - 1 := by simpa using h
      refine .inr ⟨h, ?_, by omega⟩
      unfold fc2 at e
      simp only [Bool.and_eq_true, Bool.not_eq_true', decide_eq_false_iff_not] at e
      exact e.1
    · cases h
theorem forL_range {s : St} {op : Int} (hW : Wf s) (hL : Leg s op) {g : Int} (h : g ∈ forL s (iabs op)) : 0 ≤ g ∧ g ≤ s.n := by
  have l1 := hL.lo
  have l2 := hL.hi
  have a0 := hW.l0 (iabs op) l1 (by omega)
  have a1 := hW.l1 (iabs op) l1 (by omega)
  have b0 := hW.r0 (iabs op) (by omega) l2
  have b1 := hW.r1 (iabs op) (by omega) l2
  rcases forL_ok hW hL h with h | h <;> omega
theorem forL_len (s : St) (v : Int) : (forL s v).length ≤ 2 := by
  unfold forL
  split <;> split <;> simp

theorem ok_check_mode (T : TX K mg) : FnR PW w K mg base CX0 1 (gA "check_mode" K) (PD K (Pu ph_chkmode)) := by
  obtain ⟨fd, F⟩ := f_check_mode T
  refine fnD_of F n_check_mode (F.bindsN fun _ _ _ _ _ _ us hl => match us, hl with | [_], _ => rfl) (fun ds F P ⟨d, ⟨_, _, _, e, _⟩, _⟩ => by rw [e]; rfl) fun cdv A outer s H E hr => ⟨_, PSs.nox
    (pss_one (ps_if (pt_cmpR op_notIn_seq (pv 0) (pe_glob (v := .ref _) rfl (g_MODES T) rfl) (by with_unfolding_all rfl)) (pss_one ps_never) pss_nil)), fun ds F P h gF => ?_⟩
  obtain ⟨d, ⟨k, h0, h1, rfl, rfl⟩, hP⟩ := h
  exact .ifF (.test (.inT (neg := true) (.var rfl) (.modes (t_MODES T)) rfl rfl)) (by rw [if_pos rfl, modeN_in h0 h1]; rfl) (.nil hP)

theorem ok_ucheck_legal (T : TX K mg) : FnR PW w K mg base CX0 11 (gA "_check_legal" K) (PD K (Pu ph_chklegal)) := by
  obtain ⟨fd, F⟩ := f_ucheck_legal T
  refine fnD_of F n_ucheck_legal (F.bindsN fun _ _ _ _ _ _ us hl => match us, hl with | [_, _, _], _ => rfl) (fun ds F P ⟨d, ⟨_, _, _, _, _, e, _⟩, _⟩ => by rw [e]; rfl) fun cdv A outer s H E hr => ⟨_, PSs.nox
    (pss_cons (ps_expr (pe_callR (ok_check_operation T) (hr.mono (by decide)) rfl (g_check_operation T) (k_check_operation T) at0 (pa_cons (pe_fld (pv 0) rfl) (pa_cons (pv 1) (pa_cons (pv 2) pa_nil)))))
      (pss_one (ps_if (pt_cmpR op_ne (pv 1) (pe_methE (pv 0) (c_Links T) (m_Links_operation_on T) (ok_Links_operation_on T) (hr.mono (by decide)) at0 (pa_cons (pe_callB call_abs (by rfl) (b_abs T) boot_abs' (pa_cons (pv 1) pa_nil)) pa_nil)) (nomark _)) (pss_one ps_never) pss_nil))), fun ds F P h gF => ?_⟩
  obtain ⟨d, ⟨s, op, ix, hW, hL, rfl, rfl⟩, hP⟩ := h
  have n0 := hW.n0
  have l1 := hL.lo
  have l2 := hL.hi
  have a0 := hW.l0 (iabs op) l1 (by omega)
  have a1 := hW.l1 (iabs op) l1 (by omega)
  have b0 := hW.r0 (iabs op) (by omega) l2
  have b1 := hW.r1 (iabs op) (by omega) l2
  refine .seq (.drop (.evf (.call (.cons (.lkSize (c_Links T) (n_Links_size T) (.var rfl)) (.cons (.var rfl) (.cons (.var rfl) .nil))) ⟨s.n, op, ix, l1, l2, rfl, rfl⟩) ?_))
  exact .ifF (.test (.neI (.var rfl) (.lkM (.var rfl) (.cons (.abs (.var rfl)) .nil) ⟨s, iabs op, hW, by omega, by omega, rfl, rfl⟩))) (by simp [← hL.on]) (.nil hP)

theorem ok_ulast_holders (T : TX K mg) : FnR PW w K mg base CX0 12 (gA "_last_holders" K) (PD K (Pu ph_holders)) := by
  obtain ⟨fd, F⟩ := f_ulast_holders T
  refine fnD_of F n_ulast_holders (F.bindsN fun _ _ _ _ _ _ us hl => match us, hl with | [_, _], _ => rfl) (fun ds F P ⟨d, ⟨_, _, _, _, e, _⟩, _⟩ => by rw [e]; rfl) fun cdv A outer s H E hr => ⟨_, PSs.nox
    (pss_cons (ps_set (i := 2) n_ulast_holders.nd rfl (by first | exact .inl rfl | exact .inr rfl) (pe_methE (pv 0) (c_Links T) (m_Links_left T) (ok_Links_left T) (hr.mono (by decide)) at0 (pa_cons (pe_callB call_abs (by rfl) (b_abs T) boot_abs' (pa_cons (pv 1) pa_nil)) pa_nil)))
      (pss_cons (ps_set (i := 3) n_ulast_holders.nd rfl (by first | exact .inl rfl | exact .inr rfl) (pe_lst pa_nil))
      (pss_cons (ps_for PassesOwn.never rfl (pi_list (pe_callR (ok_foreign_writes T) (hr.mono (by decide)) rfl (g_foreign_writes T) (k_foreign_writes T) at0 (pa_cons (pv 0) (pa_cons (pv 1) pa_nil)))) (pg_name (i := 4) n_ulast_holders.nd rfl (by first | exact .inl rfl | exact .inr rfl)) (pss_one (ps_if (pt_cmpR op_eq (pv 4) (pv 2) (nomark _)) (pss_one (ps_expr (pe_bm PySem.F.plainAttrs_list PySem.F.slot_list_append PySem.F.type_list_append mt_append (pv 3) (pa_cons (pe_ifExp (pt_val (pe_callR (ok_right_holds T) (hr.mono (by decide)) rfl (g_right_holds T) (k_right_holds T) at0 (pa_cons (pv 0) (pa_cons (pv 4) pa_nil)))) (pe_op op_add (pv 4) pe_int) pe_non) pa_nil)))) (pss_one (ps_expr (pe_bm PySem.F.plainAttrs_list PySem.F.slot_list_append PySem.F.type_list_append mt_append (pv 3) (pa_cons (pe_ifExp (pt_val (pe_callR (ok_left_holds T) (hr.mono (by decide)) rfl (g_left_holds T) (k_left_holds T) at0 (pa_cons (pv 0) (pa_cons (pv 4) pa_nil)))) (pv 4) pe_non) pa_nil)))))))
      (pss_one (ps_ret (pv 3)))))), fun ds F P h gF => ?_⟩
  obtain ⟨d, ⟨s, op, hW, hL, rfl, rfl⟩, hP⟩ := h
  have n0 := hW.n0
  have l1 := hL.lo
  have l2 := hL.hi
  have a0 := hW.l0 (iabs op) l1 (by omega)
  have a1 := hW.l1 (iabs op) l1 (by omega)
  have b0 := hW.r0 (iabs op) (by omega) l2
  have b1 := hW.r1 (iabs op) (by omega) l2
  refine .seq (.asg (.evf (.lkM (.var rfl) (.cons (.abs (.var rfl)) .nil) ⟨s, iabs op, hW, by omega, by omega, rfl, rfl⟩) ?_))
  refine .seq (.asg (.nilF fun p hp => ?_))
  refine .seq (RnF.forL (ds := (forL s (iabs op)).map DV.i) (fun k ss' F' => (∃ o, ss' = [some s.K, some (.i op), some (.i (s.L (iabs op))), some (.m p), o]) ∧ F' = upd F p (.lst (((forL s (iabs op)).take k).map (holdV s (iabs op)))))
    (.evf (.call (.cons (.var rfl) (.cons (.var rfl) .nil)) ⟨s, op, hW, hL, rfl, rfl⟩) ⟨rfl, ⟨none, rfl⟩, rfl⟩) (fun k d ss' F' hk ⟨⟨o, e1⟩, e2⟩ => ?_) fun ss' F' ⟨⟨o, e1⟩, e2⟩ => ?_)
  · subst e1 e2
    rw [List.getElem?_map] at hk
    cases hg : (forL s (iabs op))[k]? with
    | none => rw [hg] at hk; cases hk
    | some g =>
      rw [hg] at hk
      cases hk
      have hm := List.mem_of_getElem? hg
      have hr := forL_range hW hL hm
      have tk : (forL s (iabs op)).take (k + 1) = (forL s (iabs op)).take k ++ [g] := by rw [List.take_succ, hg]; rfl
      have hz : (((forL s (iabs op)).take k).map (holdV s (iabs op))).length < 16777216 := by
        have := forL_len s (iabs op)
        rw [List.length_map, List.length_take]
        omega
      have ff := holdV_flat s (iabs op) g
      have nx : (∃ o, [some s.K, some (.i op), some (.i (s.L (iabs op))), some (.m p), some (.i g)] = [some s.K, some (.i op), some (.i (s.L (iabs op))), some (DV.m p), o]) := ⟨_, rfl⟩
      refine .ifB (c := decide (g = s.L (iabs op))) (.test (.eqI (.var rfl) (.var rfl))) (fun e => ?_) (fun e => ?_)
      · refine RnF.app (i := 3) (v0 := holdV s (iabs op) g) rfl (.ite (.val (.call (.cons (.var rfl) (.cons (.var rfl) .nil)) ⟨s, g, hW, hr.1, hr.2, rfl, rfl⟩)) (fun _ => .add (.var rfl) .int) (fun _ => .non)) rfl hz (loc_v ff.1 ff.2 ?_) ⟨nx, by rw [tk, List.map_append]; rfl⟩
        have e := of_decide_eq_true e
        unfold holdV
        rw [if_pos e]
        cases rh s g <;> rfl
      · refine RnF.app (i := 3) (v0 := holdV s (iabs op) g) rfl (.ite (.val (.call (.cons (.var rfl) (.cons (.var rfl) .nil)) ⟨s, g, hW, hr.1, hr.2, rfl, rfl⟩)) (fun _ => .var rfl) (fun _ => .non)) rfl hz (loc_v ff.1 ff.2 ?_) ⟨nx, by rw [tk, List.map_append]; rfl⟩
        have e := of_decide_eq_false e
        unfold holdV
        rw [if_neg e]
        cases lh s g <;> rfl
  · subst e1 e2
    refine RnF.retIce rfl rfl gF hp (ds := (forL s (iabs op)).map fun g => up (holdV s (iabs op) g)) (fun G => ?_) hP
    rw [List.length_map, List.take_length]
    have := RepL.flat (K := K) (G := G) (vs := (forL s (iabs op)).map (holdV s (iabs op))) fun v hv => by
      obtain ⟨g, _, rfl⟩ := List.mem_map.mp hv
      exact (holdV_flat s (iabs op) g).1
    rw [List.map_map] at this
    exact this

theorem ok_uloses_gap (T : TX K mg) : FnR PW w K mg base CX0 13 (gA "_loses_gap" K) (PD K (Pu ph_loses)) := by
  obtain ⟨fd, F⟩ := f_uloses_gap T
  refine fnD_of F n_uloses_gap (F.bindsN fun _ _ _ _ _ _ us hl => match us, hl with | [_, _], _ => rfl) (fun ds F P ⟨d, ⟨_, _, _, _, e, _⟩, _⟩ => by rw [e]; rfl) fun cdv A outer s H E hr => ⟨_, PSs.nox
    (pss_one (ps_ret (pe_cmpR op_in_seq pe_non (pe_callR (ok_ulast_holders T) (hr.mono (by decide)) rfl (g_ulast_holders T) (k_ulast_holders T) at0 (pa_cons (pv 0) (pa_cons (pv 1) pa_nil))) (by with_unfolding_all rfl)))), fun ds F P h gF => ?_⟩
  obtain ⟨d, ⟨s, op, hW, hL, rfl, rfl⟩, hP⟩ := h
  refine .ret (.evf (.inL (neg := false) .non (.call (.cons (.var rfl) (.cons (.var rfl) .nil)) ⟨s, op, hW, hL, rfl, rfl⟩) rfl ?_) ?_)
  · rw [List.all_map, List.all_eq_true]
    intro g _
    show flatD (up (holdV s (iabs op) g)) = true
    have ff := holdV_flat s (iabs op) g
    cases e : holdV s (iabs op) g <;> first | rfl | exact absurd e (ff.2 _) | (rw [e] at ff; exact ff.1.elim)
  · rw [if_neg (by simp)]
    have e : inD .n ((forL s (iabs op)).map fun g => up (holdV s (iabs op) g)) = loses s (iabs op) := by
      unfold inD loses
      rw [List.any_map]
      refine congrArg (fun f => List.any (forL s (iabs op)) f) (funext fun g => ?_)
      exact up_none (holdV_flat s (iabs op) g).1 (holdV_flat s (iabs op) g).2
    rw [e]
    exact hP

theorem holdV_out {s : St} {op g : Int} (hW : Wf s) (hL : Leg s op) (h : g ∈ forL s (iabs op)) {x : Int} (e : holdV s (iabs op) g = .int x) : 0 ≤ x ∧ x ≤ s.n + 1 := by
  have hr := forL_range hW hL h
  unfold holdV at e
  split at e <;> split at e <;> cases e <;> omega

theorem ok_uleaves_sole_holder (T : TX K mg) : FnR PW w K mg base CX0 13 (gA "_leaves_sole_holder" K) (PD K (Pu ph_soles)) := by
  obtain ⟨fd, F⟩ := f_uleaves_sole_holder T
  refine fnD_of F n_uleaves_sole_holder (F.bindsN fun _ _ _ _ _ _ us hl => match us, hl with | [_, _], _ => rfl) (fun ds F P ⟨d, ⟨_, _, _, _, e, _⟩, _⟩ => by rw [e]; rfl) fun cdv A outer s H E hr => ⟨_, PSs.nox
    (pss_cons (ps_for PassesOwn.never rfl (pi_list (pe_callR (ok_ulast_holders T) (hr.mono (by decide)) rfl (g_ulast_holders T) (k_ulast_holders T) at0 (pa_cons (pv 0) (pa_cons (pv 1) pa_nil)))) (pg_name (i := 2) n_uleaves_sole_holder.nd rfl (by first | exact .inl rfl | exact .inr rfl)) (pss_one (ps_if (PW.pt (pw_or (pt_cmpR op_isN (pv 2) pe_non (nomark _)) (pw_or1 (pt_not (pt_val (pe_methE (pv 0) (c_Links T) (m_Links_is_out T) (ok_Links_is_out T) (hr.mono (by decide)) at0 (pa_cons (pv 2) pa_nil))))))) (pss_one (ps_ret pe_bl)) pss_nil)))
      (pss_one (ps_ret pe_bl))), fun ds F P h gF => ?_⟩
  obtain ⟨d, ⟨s, op, hW, hL, rfl, rfl⟩, hP⟩ := h
  have n0 := hW.n0
  have l1 := hL.lo
  have l2 := hL.hi
  have a0 := hW.l0 (iabs op) l1 (by omega)
  have a1 := hW.l1 (iabs op) l1 (by omega)
  have b0 := hW.r0 (iabs op) (by omega) l2
  have b1 := hW.r1 (iabs op) (by omega) l2
  refine .seq (RnF.forL (ds := (forL s (iabs op)).map fun g => up (holdV s (iabs op) g)) (fun k ss' F' => (∃ o, ss' = [some s.K, some (.i op), o]) ∧ F' = F ∧ ((forL s (iabs op)).take k).any (fun g => soleV s (holdV s (iabs op) g)) = false)
    (.evf (.call (.cons (.var rfl) (.cons (.var rfl) .nil)) ⟨s, op, hW, hL, rfl, rfl⟩) ⟨rfl, ⟨none, rfl⟩, rfl, rfl⟩) (fun k d ss' F' hk ⟨⟨o, e1⟩, e2, e3⟩ => ?_) fun ss' F' ⟨⟨o, e1⟩, e2, e3⟩ => ?_)
  · subst e1 e2
    rw [List.getElem?_map] at hk
    cases hg : (forL s (iabs op))[k]? with
    | none => rw [hg] at hk; cases hk
    | some g =>
      rw [hg] at hk
      cases hk
      have hm := List.mem_of_getElem? hg
      have tk : (forL s (iabs op)).take (k + 1) = (forL s (iabs op)).take k ++ [g] := by rw [List.take_succ, hg]; rfl
      have ff := holdV_flat s (iabs op) g
      have yes : soleV s (holdV s (iabs op) g) = true → soles s (iabs op) = true := fun z => List.any_eq_true.mpr ⟨g, hm, z⟩
      have out : ∀ x, holdV s (iabs op) g = .int x → 0 ≤ x ∧ x ≤ s.n + 1 := fun x => holdV_out hW hL hm
      cases ev : holdV s (iabs op) g with
      | non =>
        rw [show (fun g => up (holdV s (iabs op) g)) g = DV.n from by show up (holdV s (iabs op) g) = _; rw [ev]; rfl]
        refine .ifT (c := true) (.or (c1 := true) (c2 := false) (.test (.isNone (a := DV.n) (.var rfl) .non)) (fun z => by cases z)) rfl (.ret (.evf .bl ?_))
        rw [← yes (by rw [ev]; rfl)]
        exact hP
      | int x =>
        have ox := out x ev
        rw [show (fun g => up (holdV s (iabs op) g)) g = DV.i x from by show up (holdV s (iabs op) g) = _; rw [ev]; rfl]
        refine .ifB (c := !s.O x) (.or (c1 := false) (.test (.isNone (a := DV.i x) (.var rfl) .non)) (fun _ => .not (.val (.lkM (.var rfl) (.cons (.var rfl) .nil) ⟨s, x, hW, ox.1, ox.2, rfl, rfl⟩)))) (fun z => .ret (.evf .bl ?_)) (fun z => .nil ⟨⟨_, rfl⟩, rfl, ?_⟩)
        · rw [← yes (by rw [ev]; exact z)]
          exact hP
        · rw [tk, List.any_append, e3]
          simp [ev, soleV, z]
      | ref a => exact absurd ev (ff.2 a)
      | bl b => exact absurd ev (by unfold holdV; split <;> split <;> exact fun z => by cases z)
      | str b => exact absurd ev (by unfold holdV; split <;> split <;> exact fun z => by cases z)
      | byt b => exact absurd ev (by unfold holdV; split <;> split <;> exact fun z => by cases z)
      | flt b => exact absurd ev (by unfold holdV; split <;> split <;> exact fun z => by cases z)
      | ty b => exact absurd ev (by unfold holdV; split <;> split <;> exact fun z => by cases z)
  · subst e1 e2
    refine .ret (.evf .bl ?_)
    have e : soles s (iabs op) = false := by
      rw [List.length_map, List.take_length] at e3
      exact e3
    rw [← e]
    exact hP

theorem ok_uis_local (T : TX K mg) : FnR PW w K mg base CX0 2 (gA "_is_local" K) (PD K (Pu ph_local)) := by
  obtain ⟨fd, F⟩ := f_uis_local T
  refine fnD_of F n_uis_local (F.bindsN fun _ _ _ _ _ _ us hl => match us, hl with | [_, _], _ => rfl) (fun ds F P ⟨d, ⟨_, _, _, _, e, _⟩, _⟩ => by rw [e]; rfl) fun cdv A outer s H E hr => ⟨_, PSs.nox
    (pss_cons (ps_set (i := 2) n_uis_local.nd rfl (by first | exact .inl rfl | exact .inr rfl) (pe_callB call_abs (by rfl) (b_abs T) boot_abs' (pa_cons (pv 1) pa_nil)))
      (pss_cons (ps_set (i := 3) n_uis_local.nd rfl (by first | exact .inl rfl | exact .inr rfl) (pe_methE (pv 0) (c_Links T) (m_Links_left T) (ok_Links_left T) (hr.mono (by decide)) at0 (pa_cons (pv 2) pa_nil)))
      (pss_cons (ps_set (i := 4) n_uis_local.nd rfl (by first | exact .inl rfl | exact .inr rfl) (pe_methE (pv 0) (c_Links T) (m_Links_right T) (ok_Links_right T) (hr.mono (by decide)) at0 (pa_cons (pv 2) pa_nil)))
      (pss_cons (ps_if (PW.pt (pw_or (pt_val (pe_methE (pv 0) (c_Links T) (m_Links_is_out T) (ok_Links_is_out T) (hr.mono (by decide)) at0 (pa_cons (pv 3) pa_nil))) (pw_or1 (pt_val (pe_methE (pv 0) (c_Links T) (m_Links_is_out T) (ok_Links_is_out T) (hr.mono (by decide)) at0 (pa_cons (pv 4) pa_nil)))))) (pss_one (ps_ret pe_bl)) pss_nil)
      (pss_cons (ps_if (pt_cmpR op_lt (pv 1) pe_int (nomark _)) (pss_one (ps_ret (pe_and (pe_cmpR op_eq (pe_methE (pv 0) (c_Links T) (m_Links_right T) (ok_Links_right T) (hr.mono (by decide)) at0 (pa_cons (pv 3) pa_nil)) (pv 2) (nomark _)) (pe_one (pe_cmpR op_eq (pe_methE (pv 0) (c_Links T) (m_Links_left T) (ok_Links_left T) (hr.mono (by decide)) at0 (pa_cons (pv 4) pa_nil)) (pv 2) (nomark _)))))) pss_nil)
      (pss_one (ps_ret (pe_and (pe_cmpR op_eq (pe_methE (pv 0) (c_Links T) (m_Links_right T) (ok_Links_right T) (hr.mono (by decide)) at0 (pa_cons (pv 3) pa_nil)) (pv 4) (nomark _)) (pe_one (pe_cmpR op_eq (pe_methE (pv 0) (c_Links T) (m_Links_left T) (ok_Links_left T) (hr.mono (by decide)) at0 (pa_cons (pv 4) pa_nil)) (pv 3) (nomark _))))))))))), fun ds F P h gF => ?_⟩
  obtain ⟨d, ⟨s, op, hW, hL, rfl, rfl⟩, hP⟩ := h
  have n0 := hW.n0
  have l1 := hL.lo
  have l2 := hL.hi
  have a0 := hW.l0 (iabs op) l1 (by omega)
  have a1 := hW.l1 (iabs op) l1 (by omega)
  have b0 := hW.r0 (iabs op) (by omega) l2
  have b1 := hW.r1 (iabs op) (by omega) l2
  refine .seq (.asg (.evf (.abs (.var rfl)) ?_))
  refine .seq (.asg (.evf (.lkM (.var rfl) (.cons (.var rfl) .nil) ⟨s, iabs op, hW, by omega, by omega, rfl, rfl⟩) ?_))
  refine .seq (.asg (.evf (.lkM (.var rfl) (.cons (.var rfl) .nil) ⟨s, iabs op, hW, by omega, by omega, rfl, rfl⟩) ?_))
  refine .seq (.ifB (.or (.val (.lkM (.var rfl) (.cons (.var rfl) .nil) ⟨s, s.L (iabs op), hW, by omega, by omega, rfl, rfl⟩)) (fun _ => .val (.lkM (.var rfl) (.cons (.var rfl) .nil) ⟨s, s.R (iabs op), hW, by omega, by omega, rfl, rfl⟩))) (fun e1 => .ret (.evf .bl ?_)) (fun e1 => .nil ?_))
  · unfold loc at hP
    rw [if_pos e1] at hP
    exact hP
  · unfold loc at hP
    rw [if_neg (by rw [e1]; simp)] at hP
    refine .seq (.ifB (c := decide (op < 0)) (.test (.lt (.var rfl) .int)) (fun e2 => ?_) (fun e2 => .nil ?_))
    · rw [if_pos (of_decide_eq_true e2)] at hP
      exact .ret (.evf (.and (.eqI (.lkM (.var rfl) (.cons (.var rfl) .nil) ⟨s, s.L (iabs op), hW, by omega, by omega, rfl, rfl⟩) (.var rfl)) (fun _ => .eqI (.lkM (.var rfl) (.cons (.var rfl) .nil) ⟨s, s.R (iabs op), hW, by omega, by omega, rfl, rfl⟩) (.var rfl))) hP)
    · rw [if_neg (of_decide_eq_false e2)] at hP
      exact .ret (.evf (.and (.eqI (.lkM (.var rfl) (.cons (.var rfl) .nil) ⟨s, s.L (iabs op), hW, by omega, by omega, rfl, rfl⟩) (.var rfl)) (fun _ => .eqI (.lkM (.var rfl) (.cons (.var rfl) .nil) ⟨s, s.R (iabs op), hW, by omega, by omega, rfl, rfl⟩) (.var rfl))) hP)

end
end Lay
end
section
set_option Elab.async false
set_option linter.all false
set_option autoImplicit false
set_option maxRecDepth 100000
set_option maxHeartbeats 4000000
/-! own layer L: modes, super() over plain data -/
namespace Lay
open PySem PySem.Spec PyProof.Rows L2
theorem pe_alt {X : Cx} {e : Expr} {t u : TE} (h : PE X e t) (h2 : PE X e u) : PE X e (fun σ H Q => t σ H Q ∨ u σ H Q) := ⟨fun pins s σ H Q I q => q.elim (h.run pins s σ H Q I) (h2.run pins s σ H Q I)⟩
section
variable {K : PySem.W.Frag} {te ta tb tl : TE} {tas : TA} {ss : List (Option DV)} {F : Hp} {d : DV} {ds : List DV} {φ : List DV → DV → Prop} {E : L2.St → XK} {C : Str}
theorem EvD.altL (h : EvD K ta ss d) : EvD K (fun σ H Q => ta σ H Q ∨ tb σ H Q) ss d := fun F σ G o Q q => .inl (h F σ G o Q q)
theorem EvD.altR (h : EvD K tb ss d) : EvD K (fun σ H Q => ta σ H Q ∨ tb σ H Q) ss d := fun F σ G o Q q => .inr (h F σ G o Q q)
theorem Rep.o_inv {G : Hp} {x : V} (h : Rep K G x (.o C)) : ∃ a dx, x = .ref a ∧ G a = some (.ins (He.ga K C) dx []) := by cases h with | o h => exact ⟨_, _, rfl, h⟩
theorem EvD.new : EvD K (tNew (He.ga K C)) ss (.o C) := .mk fun σ G F o Q q => fun y dx hy hd ne => by
  have h1 := joi_none hy
  have h2 := joi_none hd
  have e : upd (upd (joi G F) dx (.own y)) y (.ins (He.ga K C) dx []) = joi (upd (upd G dx (.own y)) y (.ins (He.ga K C) dx [])) F := by
    rw [joi_new, joi_new]
  rw [e]
  refine q _ _ ⟨(Ext.made h1.1 h2.1 ne).1, fun b => ?_, o.gG.made h1.1 h2.1 ne, o.gF⟩ (.o upd_same)
  by_cases hb : b = y
  · subst hb; exact .inr h1.2
  · rw [upd_ne hb]
    by_cases hb2 : b = dx
    · subst hb2; exact .inr h2.2
    · rw [upd_ne hb2]; exact o.dj b
theorem EvD.cvalS {mc : Value} {f z : Str} (h : ClX.CRead K (He.ga K C) mc ∧ ∃ u, ClX.CVal K (He.ga K C) mc f (.str z) u) : EvD K (ClX.tCVal K (tC (.ref (He.ga K C))) f) ss (.s z) := .mk fun σ G F o Q q => by
  obtain ⟨r, u, k⟩ := h
  exact ⟨_, mc, _, u, rfl, r, k, q _ G o.refl (.s z)⟩
theorem EvD.cvalI {mc : Value} {f : Str} {z : Int} (h : ClX.CRead K (He.ga K C) mc ∧ ∃ u, ClX.CVal K (He.ga K C) mc f (.int z) u) : EvD K (ClX.tCVal K (tC (.ref (He.ga K C))) f) ss (.i z) := .mk fun σ G F o Q q => by
  obtain ⟨r, u, k⟩ := h
  exact ⟨_, mc, _, u, rfl, r, k, q _ G o.refl (.i z)⟩
/-- o.m(e, ..), o an object without fields -/
theorem EvD.oM {m : Str} (h : EvD K ta ss (.o C)) (hs : EvAs K tas ss ds) (p : φ (.o C :: ds) d) : EvD K (tMethE (He.ga K C) m (PD K (Pu φ)) E ta tas) ss d := fun F σ G o Q q => h.at o fun x G1 g1 rx => by
  have rx0 := rx
  obtain ⟨a, dx, rfl, h1⟩ := rx.o_inv
  exact ⟨a, dx, _, rfl, joi_l h1, rfl, hs.at (o.gr g1) fun vs G2 g2 rs => ⟨G2, F, _, _, rfl, g2.dj, g2.gG, g2.gF, (rx0.same g2.sm).consL rs, ⟨d, p, rfl, rfl⟩, q.gr (g1.trans g2)⟩⟩
theorem EvD.sup {D f2 : Addr} {m : Str} {E : XK} (h : ss[0]? = some (some (.o C))) (M : SupM K (He.ga K C) D m f2) (c : Cls K (He.ga K C)) (hs : EvAs K tas ss ds) (p : φ (.o C :: ds) d) : EvD K (tSup K D m f2 (PD K (Pu φ)) E tas) ss d := fun F σ G o Q q => by
  obtain ⟨v, hv, rv⟩ := o.sg.2 0 _ h
  have rv0 := rv
  obtain ⟨a, dx, rfl, h1⟩ := rv.o_inv
  exact ⟨a, _, dx, _, hv, joi_l h1, M, c, hs.at o fun vs G2 g2 rs => ⟨G2, F, _, _, rfl, g2.dj, g2.gG, g2.gF, (rv0.same g2.sm).consL rs, ⟨d, p, rfl, rfl⟩, q.gr g2⟩⟩
end
def stF (N : List Str) (ds : List DV) : List (Option DV) := ds.map some ++ none :: List.replicate (N.length - (ds.length + 1)) none
theorem sg_startF {K : PySem.W.Frag} {G : Hp} {N : List Str} {vs : List V} {ds : List DV} {x : Option V} (r : RepL K G vs ds) : Sg K G (NdefX.startF N vs [x]) (stF N ds) := by
  refine ⟨by simp [NdefX.startF, stF, r.1] <;> omega, fun i d hi => ?_⟩
  unfold stF at hi
  unfold NdefX.startF
  by_cases h : i < ds.length
  · rw [List.getElem?_append_left (by simpa using h), List.getElem?_map] at hi
    cases e : ds[i]? with
    | none => rw [e] at hi; cases hi
    | some d' =>
      rw [e] at hi
      cases hi
      obtain ⟨v, h1, h2⟩ := r.get e
      refine ⟨v, ?_, h2⟩
      rw [List.getElem?_append_left (by simp [r.1]; omega), List.getElem?_map, h1]
      rfl
  · rw [List.getElem?_append_right (by simpa using h)] at hi
    have := List.mem_of_getElem? hi
    simp at this
/-- THE RULE for a method that says super(), raising nothing -/
theorem fnDS_of {P : Program} {w : World} {K : PySem.W.Frag} {mg : Str → Option Value} {base : Heap} {k : Nat} {f D : Addr} {x qual : Str} {params : Arguments} {body : List Stmt} {scope : Scope} {N ps : List Str} {Φ : Ph}
    (F : FunC K x qual params body scope D f) (S : NdefX.NScope N ps ["__class__"] scope) (hb : ∀ (cl : List (Str × Addr)) (doc pm cdv ct : Value) (us : List Value), us.length = ps.length → bindArgs (PySem.W.fnX x qual params body scope cl .none .none doc pm none cdv ct) ⟨us, []⟩ = pure (ps.zip us)) (len : ∀ ds F P, Φ ds F P → ds.length = ps.length)
    (hbody : ∀ (c cc : Addr) (oc doc pm ct cl : Value) (od cld : Option Addr) (osl csl : Array (Option Value)) (A : Around) (outer : List Env) (s : Shared) (H : Hp) (E : XK),
      K.lookup f = some ⟨oc, od, .func (PySem.W.fnX x qual params body scope [("__class__", cc)] .none .none doc pm none (.ref c) ct), osl⟩ → K.lookup cc = some ⟨cl, cld, .cell (some (.ref D)), csl⟩ →
      Room k (A.deeper (NdefX.envF ⟨x, qual, params, body, scope, [("__class__", cc)], c⟩ f s.heap.objs.size)) →
      ∃ t, PSsA (cxC CX0 P w K mg base N ⟨x, qual, params, body, scope, [("__class__", cc)], c⟩ f A outer s H E) (.func body (NdefX.envF ⟨x, qual, params, body, scope, [("__class__", cc)], c⟩ f s.heap.objs.size)) body t ∧
        ∀ ds F P, Φ ds F P → Good F → RnF K t (stF N ds) F (fun _ F' => P .n F') P) : FnR P w K mg base CX0 (k + 1) f (PD K Φ) := by
  refine fnR_super F S hb (fun vs H Q E h => ?_) fun c cc oc doc pm ct cl od cld osl csl A outer s H vs Q E lk lc hr h => ?_
  · obtain ⟨G, F, ds, P, _, _, _, _, r, hΦ, _⟩ := h
    rw [r.1]
    exact len ds F P hΦ
  · obtain ⟨G, F, ds, P, eH, dj, gG, gF, r, hΦ, go⟩ := h
    obtain ⟨t, ht, hq⟩ := hbody c cc oc doc pm ct cl od cld osl csl A outer s H E lk lc hr
    refine ⟨t, ht, ?_⟩
    subst eH
    exact hq ds F P hΦ gF _ G ⟨sg_startF r, dj, gG, gF⟩ _ (fun σ' ss' G' F' g _ p => go .non .n G' F' g .n p) go
end Lay
end
section
set_option Elab.async false
set_option linter.all false
set_option autoImplicit false
set_option maxRecDepth 100000
set_option maxHeartbeats 4000000
namespace Lay
open PySem PySem.Spec PyProof.Rows L2


def mcls (k : Int) : Str := if k = 0 then "FreeMode" else if k = 1 then "SavingMode" else if k = 2 then "GuardedMode" else "CheckedMode"
/-- C's super() chain -/
def ph_free (ds : List DV) (d : DV) : Prop := ∃ k s op, 0 ≤ k ∧ k ≤ 3 ∧ Wf s ∧ Leg s op ∧ ds = [.o (mcls k), s.K, .i op] ∧ d = .s ""
def ph_mode (j : Int) (ds : List DV) (d : DV) : Prop := ∃ k s op, j ≤ k ∧ k ≤ 3 ∧ Wf s ∧ Leg s op ∧ ds = [.o (mcls k), s.K, .i op] ∧ d = .s (refT s op j)
def ph_named (ds : List DV) (d : DV) : Prop := ∃ k : Int, 0 ≤ k ∧ k ≤ 3 ∧ ds = [.s (modeN k)] ∧ d = .o (mcls k)
def ph_refuser (ds : List DV) (d : DV) : Prop := ∃ k s op, 0 ≤ k ∧ k ≤ 3 ∧ Wf s ∧ Leg s op ∧ ds = [s.K, .i op, .s (modeN k)] ∧ d = .s (refT s op k)
section
variable {w : World} {K : PySem.W.Frag} {mg : Str → Option Value} {base : Heap}

theorem ok_FreeMode_refusal (T : TX K mg) : FnR PW w K mg base CX0 12 (mA "FreeMode" "refusal" K) (PD K (Pu ph_free)) := by
  obtain ⟨fd, F⟩ := f_FreeMode_refusal T
  refine fnD_of F n_FreeMode_refusal (F.bindsN fun _ _ _ _ _ _ us hl => match us, hl with | [_, _, _], _ => rfl) (fun ds F P ⟨d, ⟨_, _, _, _, _, _, _, e, _⟩, _⟩ => by rw [e]; rfl) fun cdv A outer s H E hr => ⟨_, PSs.nox
    (pss_cons (ps_expr (pe_callR (ok_ucheck_legal T) (hr.mono (by decide)) rfl (g_ucheck_legal T) (k_ucheck_legal T) at0 (pa_cons (pv 1) (pa_cons (pv 2) (pa_cons pe_int pa_nil)))))
      (pss_one (ps_ret pe_str))), fun ds F P h gF => ?_⟩
  obtain ⟨d, ⟨k, s, op, h0, h1, hW, hL, rfl, rfl⟩, hP⟩ := h
  refine .seq (.drop (.evf (.call (.cons (.var rfl) (.cons (.var rfl) (.cons .int .nil))) ⟨s, op, 0, hW, hL, rfl, rfl⟩) ?_))
  exact .ret (.evf .str hP)

theorem ok_SavingMode_refusal (T : TX K mg) : FnR PW w K mg base CX0 14 (mA "SavingMode" "refusal" K) (PD K (Pu (ph_mode 1))) := by
  refine fnDS_of (k := 13) (f_SavingMode_refusal T) n_SavingMode_refusal (fun cl doc pm cdv ct us hl => match us, hl with | [_, _, _], _ => rfl) (fun ds F P ⟨d, ⟨_, _, _, _, _, _, _, e, _⟩, _⟩ => by rw [e]; rfl) fun c cc oc doc pm ct cl od cld osl csl A outer s H E lk lc hr => ⟨_,
    pssA_cons (psA_set (i := 4) n_SavingMode_refusal.nd rfl (.inl rfl) (peA_super (CX2 := CX0) (E2 := E0) n_SavingMode_refusal (sc_SavingMode_refusal T) lk lc rfl rfl rfl (List.Mem.head _) rfl (by decide +kernel) (ok_FreeMode_refusal T) (hr.mono (by decide)) pass0 (pa_cons (pv 1) (pa_cons (pv 2) pa_nil))))
      (pss_cons (ps_if (PW.pt (pw_and (pt_cmpR op_eq (pv 4) pe_str (nomark _)) (pw_and1 (pt_val (pe_callR (ok_uloses_gap T) (hr.mono (by decide)) rfl (g_uloses_gap T) (k_uloses_gap T) at0 (pa_cons (pv 1) (pa_cons (pv 2) pa_nil))))))) (pss_one (ps_ret (ClX.pe_cval (pe_glob (v := .ref _) rfl (g_SavingMode T) rfl)))) pss_nil)
      (pss_one (ps_ret (pv 4)))), fun ds F P h gF => ?_⟩
  obtain ⟨d, ⟨k, s, op, h0, h1, hW, hL, rfl, rfl⟩, hP⟩ := h
  refine .seq (.asg (.evf (d := .s "") ?_ ?_))
  · have e : k = 1 ∨ k = 2 ∨ k = 3 := by omega
    rcases e with rfl | rfl | rfl
    · exact EvD.sup (C := "SavingMode") (d := .s "") (φ := ph_free) rfl (sm_SavingMode_SavingMode T) (c_SavingMode T) (.cons (.var rfl) (.cons (.var rfl) .nil)) ⟨1, s, op, by omega, by omega, hW, hL, rfl, rfl⟩
    · exact EvD.sup (C := "GuardedMode") (d := .s "") (φ := ph_free) rfl (sm_GuardedMode_SavingMode T) (c_GuardedMode T) (.cons (.var rfl) (.cons (.var rfl) .nil)) ⟨2, s, op, by omega, by omega, hW, hL, rfl, rfl⟩
    · exact EvD.sup (C := "CheckedMode") (d := .s "") (φ := ph_free) rfl (sm_CheckedMode_SavingMode T) (c_CheckedMode T) (.cons (.var rfl) (.cons (.var rfl) .nil)) ⟨3, s, op, by omega, by omega, hW, hL, rfl, rfl⟩
  · refine .seq (.ifB (.and (.test (.eqS (.var rfl) .str)) (fun _ => .val (.call (.cons (.var rfl) (.cons (.var rfl) .nil)) ⟨s, op, hW, hL, rfl, rfl⟩))) (fun e => .ret (.evf (.cvalS (v_SavingMode T)) ?_)) (fun e => .nil (.ret (.evf (.var rfl) ?_))))
    · have e' : refT s op 1 = "saving" := by
        simp only [Bool.and_eq_true, decide_eq_true_eq, Bool.not_eq_true'] at e
        obtain ⟨e1, e2⟩ := e
        revert e1
        unfold refT
        simp (config := { decide := true }) [e2]
        try (split <;> simp_all (config := { decide := true }))
        try (split <;> simp_all (config := { decide := true }))
      rw [e'] at hP
      exact hP
    · have e' : refT s op 1 = "" := by
        revert e
        unfold refT
        cases h1 : loses s (iabs op) <;> cases h2 : soles s (iabs op) <;> cases h3 : loc s op <;> simp (config := { decide := true })
      rw [e'] at hP
      exact hP

theorem ok_GuardedMode_refusal (T : TX K mg) : FnR PW w K mg base CX0 15 (mA "GuardedMode" "refusal" K) (PD K (Pu (ph_mode 2))) := by
  refine fnDS_of (k := 14) (f_GuardedMode_refusal T) n_GuardedMode_refusal (fun cl doc pm cdv ct us hl => match us, hl with | [_, _, _], _ => rfl) (fun ds F P ⟨d, ⟨_, _, _, _, _, _, _, e, _⟩, _⟩ => by rw [e]; rfl) fun c cc oc doc pm ct cl od cld osl csl A outer s H E lk lc hr => ⟨_,
    pssA_cons (psA_set (i := 4) n_GuardedMode_refusal.nd rfl (.inl rfl) (peA_super (CX2 := CX0) (E2 := E0) n_GuardedMode_refusal (sc_GuardedMode_refusal T) lk lc rfl rfl rfl (List.Mem.head _) rfl (by decide +kernel) (ok_SavingMode_refusal T) (hr.mono (by decide)) pass0 (pa_cons (pv 1) (pa_cons (pv 2) pa_nil))))
      (pss_cons (ps_if (PW.pt (pw_and (pt_cmpR op_eq (pv 4) pe_str (nomark _)) (pw_and1 (pt_val (pe_callR (ok_uleaves_sole_holder T) (hr.mono (by decide)) rfl (g_uleaves_sole_holder T) (k_uleaves_sole_holder T) at0 (pa_cons (pv 1) (pa_cons (pv 2) pa_nil))))))) (pss_one (ps_ret (ClX.pe_cval (pe_glob (v := .ref _) rfl (g_GuardedMode T) rfl)))) pss_nil)
      (pss_one (ps_ret (pv 4)))), fun ds F P h gF => ?_⟩
  obtain ⟨d, ⟨k, s, op, h0, h1, hW, hL, rfl, rfl⟩, hP⟩ := h
  refine .seq (.asg (.evf (d := .s (refT s op 1)) ?_ ?_))
  · have e : k = 2 ∨ k = 3 := by omega
    rcases e with rfl | rfl
    · exact EvD.sup (C := "GuardedMode") (d := .s (refT s op 1)) (φ := (ph_mode 1)) rfl (sm_GuardedMode_GuardedMode T) (c_GuardedMode T) (.cons (.var rfl) (.cons (.var rfl) .nil)) ⟨2, s, op, by omega, by omega, hW, hL, rfl, rfl⟩
    · exact EvD.sup (C := "CheckedMode") (d := .s (refT s op 1)) (φ := (ph_mode 1)) rfl (sm_CheckedMode_GuardedMode T) (c_CheckedMode T) (.cons (.var rfl) (.cons (.var rfl) .nil)) ⟨3, s, op, by omega, by omega, hW, hL, rfl, rfl⟩
  · refine .seq (.ifB (.and (.test (.eqS (.var rfl) .str)) (fun _ => .val (.call (.cons (.var rfl) (.cons (.var rfl) .nil)) ⟨s, op, hW, hL, rfl, rfl⟩))) (fun e => .ret (.evf (.cvalS (v_GuardedMode T)) ?_)) (fun e => .nil (.ret (.evf (.var rfl) ?_))))
    · have e' : refT s op 2 = "guarded" := by
        simp only [Bool.and_eq_true, decide_eq_true_eq, Bool.not_eq_true'] at e
        obtain ⟨e1, e2⟩ := e
        revert e1
        unfold refT
        simp (config := { decide := true }) [e2]
        try (split <;> simp_all (config := { decide := true }))
        try (split <;> simp_all (config := { decide := true }))
      rw [e'] at hP
      exact hP
    · have e' : refT s op 2 = (refT s op 1) := by
        revert e
        unfold refT
        cases h1 : loses s (iabs op) <;> cases h2 : soles s (iabs op) <;> cases h3 : loc s op <;> simp (config := { decide := true })
      rw [e'] at hP
      exact hP

theorem ok_CheckedMode_refusal (T : TX K mg) : FnR PW w K mg base CX0 16 (mA "CheckedMode" "refusal" K) (PD K (Pu (ph_mode 3))) := by
  refine fnDS_of (k := 15) (f_CheckedMode_refusal T) n_CheckedMode_refusal (fun cl doc pm cdv ct us hl => match us, hl with | [_, _, _], _ => rfl) (fun ds F P ⟨d, ⟨_, _, _, _, _, _, _, e, _⟩, _⟩ => by rw [e]; rfl) fun c cc oc doc pm ct cl od cld osl csl A outer s H E lk lc hr => ⟨_,
    pssA_cons (psA_set (i := 4) n_CheckedMode_refusal.nd rfl (.inl rfl) (peA_super (CX2 := CX0) (E2 := E0) n_CheckedMode_refusal (sc_CheckedMode_refusal T) lk lc rfl rfl rfl (List.Mem.head _) rfl (by decide +kernel) (ok_GuardedMode_refusal T) (hr.mono (by decide)) pass0 (pa_cons (pv 1) (pa_cons (pv 2) pa_nil))))
      (pss_cons (ps_if (PW.pt (pw_and (pt_cmpR op_eq (pv 4) pe_str (nomark _)) (pw_and1 (pt_not (pt_val (pe_callR (ok_uis_local T) (hr.mono (by decide)) rfl (g_uis_local T) (k_uis_local T) at0 (pa_cons (pv 1) (pa_cons (pv 2) pa_nil)))))))) (pss_one (ps_ret (ClX.pe_cval (pe_glob (v := .ref _) rfl (g_CheckedMode T) rfl)))) pss_nil)
      (pss_one (ps_ret (pv 4)))), fun ds F P h gF => ?_⟩
  obtain ⟨d, ⟨k, s, op, h0, h1, hW, hL, rfl, rfl⟩, hP⟩ := h
  refine .seq (.asg (.evf (d := .s (refT s op 2)) ?_ ?_))
  · have e : k = 3 := by omega
    rcases e with rfl
    · exact EvD.sup (C := "CheckedMode") (d := .s (refT s op 2)) (φ := (ph_mode 2)) rfl (sm_CheckedMode_CheckedMode T) (c_CheckedMode T) (.cons (.var rfl) (.cons (.var rfl) .nil)) ⟨3, s, op, by omega, by omega, hW, hL, rfl, rfl⟩
  · refine .seq (.ifB (.and (.test (.eqS (.var rfl) .str)) (fun _ => .not (.val (.call (.cons (.var rfl) (.cons (.var rfl) .nil)) ⟨s, op, hW, hL, rfl, rfl⟩)))) (fun e => .ret (.evf (.cvalS (v_CheckedMode T)) ?_)) (fun e => .nil (.ret (.evf (.var rfl) ?_))))
    · have e' : refT s op 3 = "checked" := by
        simp only [Bool.and_eq_true, decide_eq_true_eq, Bool.not_eq_true'] at e
        obtain ⟨e1, e2⟩ := e
        revert e1
        unfold refT
        simp (config := { decide := true }) [e2]
        try (split <;> simp_all (config := { decide := true }))
        try (split <;> simp_all (config := { decide := true }))
      rw [e'] at hP
      exact hP
    · have e' : refT s op 3 = (refT s op 2) := by
        revert e
        unfold refT
        cases h1 : loses s (iabs op) <;> cases h2 : soles s (iabs op) <;> cases h3 : loc s op <;> simp (config := { decide := true })
      rw [e'] at hP
      exact hP

theorem modeN_eq {k : Int} (h0 : 0 ≤ k) (h1 : k ≤ 3) : (decide (modeN k = "saving") = decide (k = 1)) ∧ (decide (modeN k = "guarded") = decide (k = 2)) ∧ (decide (modeN k = "checked") = decide (k = 3)) := by
  have : k = 0 ∨ k = 1 ∨ k = 2 ∨ k = 3 := by omega
  rcases this with rfl | rfl | rfl | rfl <;> decide +kernel

theorem ok_mode_named (T : TX K mg) : FnR PW w K mg base CX0 2 (gA "mode_named" K) (PD K (Pu ph_named)) := by
  obtain ⟨fd, F⟩ := f_mode_named T
  refine fnD_of F n_mode_named (F.bindsN fun _ _ _ _ _ _ us hl => match us, hl with | [_], _ => rfl) (fun ds F P ⟨d, ⟨_, _, _, e, _⟩, _⟩ => by rw [e]; rfl) fun cdv A outer s H E hr => ⟨_, PSs.nox
    (pss_cons (ps_expr (pe_callR (ok_check_mode T) (hr.mono (by decide)) rfl (g_check_mode T) (k_check_mode T) at0 (pa_cons (pv 0) pa_nil)))
      (pss_cons (ps_if (pt_cmpR op_eq (pv 0) (ClX.pe_cval (pe_glob (v := .ref _) rfl (g_SavingMode T) rfl)) (nomark _)) (pss_one (ps_ret (pe_make00 (nw_SavingMode T).1 (nw_SavingMode T).2 (k_SavingMode T) rfl (g_SavingMode T)))) pss_nil)
      (pss_cons (ps_if (pt_cmpR op_eq (pv 0) (ClX.pe_cval (pe_glob (v := .ref _) rfl (g_GuardedMode T) rfl)) (nomark _)) (pss_one (ps_ret (pe_make00 (nw_GuardedMode T).1 (nw_GuardedMode T).2 (k_GuardedMode T) rfl (g_GuardedMode T)))) pss_nil)
      (pss_cons (ps_if (pt_cmpR op_eq (pv 0) (ClX.pe_cval (pe_glob (v := .ref _) rfl (g_CheckedMode T) rfl)) (nomark _)) (pss_one (ps_ret (pe_make00 (nw_CheckedMode T).1 (nw_CheckedMode T).2 (k_CheckedMode T) rfl (g_CheckedMode T)))) pss_nil)
      (pss_one (ps_ret (pe_make00 (nw_FreeMode T).1 (nw_FreeMode T).2 (k_FreeMode T) rfl (g_FreeMode T)))))))), fun ds F P h gF => ?_⟩
  obtain ⟨d, ⟨k, h0, h1, rfl, rfl⟩, hP⟩ := h
  have hm := modeN_eq h0 h1
  refine .seq (.drop (.evf (.call (.cons (.var rfl) .nil) ⟨k, h0, h1, rfl, rfl⟩) ?_))
  refine .seq (.ifB (c := decide (k = 1)) (by rw [← hm.1]; exact .test (.eqS (.var rfl) (.cvalS (v_SavingMode T)))) (fun e => .ret (.evf (.new (C := "SavingMode")) ?_)) (fun e1 => .nil ?_))
  · have e := of_decide_eq_true e
    subst e
    exact hP
  refine .seq (.ifB (c := decide (k = 2)) (by rw [← hm.2.1]; exact .test (.eqS (.var rfl) (.cvalS (v_GuardedMode T)))) (fun e => .ret (.evf (.new (C := "GuardedMode")) ?_)) (fun e2 => .nil ?_))
  · have e := of_decide_eq_true e
    subst e
    exact hP
  refine .seq (.ifB (c := decide (k = 3)) (by rw [← hm.2.2]; exact .test (.eqS (.var rfl) (.cvalS (v_CheckedMode T)))) (fun e => .ret (.evf (.new (C := "CheckedMode")) ?_)) (fun e3 => .nil ?_))
  · have e := of_decide_eq_true e
    subst e
    exact hP
  have e1 := of_decide_eq_false e1
  have e2 := of_decide_eq_false e2
  have e3 := of_decide_eq_false e3
  have e : k = 0 := by omega
  subst e
  exact .ret (.evf (.new (C := "FreeMode")) hP)

theorem ok_refuser (T : TX K mg) : FnR PW w K mg base CX0 17 (gA "refuser" K) (PD K (Pu ph_refuser)) := by
  obtain ⟨fd, F⟩ := f_refuser T
  refine fnD_of F n_refuser (F.bindsN fun _ _ _ _ _ _ us hl => match us, hl with | [_, _, _], _ => rfl) (fun ds F P ⟨d, ⟨_, _, _, _, _, _, _, e, _⟩, _⟩ => by rw [e]; rfl) fun cdv A outer s H E hr => ⟨_, PSs.nox
    (pss_cons (ps_set (i := 3) n_refuser.nd rfl (by first | exact .inl rfl | exact .inr rfl) (pe_callR (ok_mode_named T) (hr.mono (by decide)) rfl (g_mode_named T) (k_mode_named T) at0 (pa_cons (pv 2) pa_nil)))
      (pss_one (ps_ret (pe_alt (pe_methE (pv 3) (c_FreeMode T) (m_FreeMode_refusal T) (ok_FreeMode_refusal T) (hr.mono (by decide)) at0 (pa_cons (pv 0) (pa_cons (pv 1) pa_nil))) (pe_alt (pe_methE (pv 3) (c_SavingMode T) (m_SavingMode_refusal T) (ok_SavingMode_refusal T) (hr.mono (by decide)) at0 (pa_cons (pv 0) (pa_cons (pv 1) pa_nil))) (pe_alt (pe_methE (pv 3) (c_GuardedMode T) (m_GuardedMode_refusal T) (ok_GuardedMode_refusal T) (hr.mono (by decide)) at0 (pa_cons (pv 0) (pa_cons (pv 1) pa_nil))) (pe_methE (pv 3) (c_CheckedMode T) (m_CheckedMode_refusal T) (ok_CheckedMode_refusal T) (hr.mono (by decide)) at0 (pa_cons (pv 0) (pa_cons (pv 1) pa_nil))))))))), fun ds F P h gF => ?_⟩
  obtain ⟨d, ⟨k, s, op, h0, h1, hW, hL, rfl, rfl⟩, hP⟩ := h
  refine .seq (.asg (.evf (.call (.cons (.var rfl) .nil) ⟨k, h0, h1, rfl, rfl⟩) ?_))
  refine .ret (.evf ?_ hP)
  have e : k = 0 ∨ k = 1 ∨ k = 2 ∨ k = 3 := by omega
  rcases e with rfl | rfl | rfl | rfl
  · have e0 : refT s op 0 = "" := by unfold refT; simp
    rw [e0]
    exact .altL (.oM (C := "FreeMode") (.var rfl) (.cons (.var rfl) (.cons (.var rfl) .nil)) ⟨0, s, op, by omega, by omega, hW, hL, rfl, rfl⟩)
  · exact .altR (.altL (.oM (C := "SavingMode") (.var rfl) (.cons (.var rfl) (.cons (.var rfl) .nil)) ⟨1, s, op, by omega, by omega, hW, hL, rfl, rfl⟩))
  · exact .altR (.altR (.altL (.oM (C := "GuardedMode") (.var rfl) (.cons (.var rfl) (.cons (.var rfl) .nil)) ⟨2, s, op, by omega, by omega, hW, hL, rfl, rfl⟩)))
  · exact .altR (.altR (.altR (.oM (C := "CheckedMode") (.var rfl) (.cons (.var rfl) (.cons (.var rfl) .nil)) ⟨3, s, op, by omega, by omega, hW, hL, rfl, rfl⟩)))

end
end Lay
end
section
set_option Elab.async false
set_option linter.all false
set_option autoImplicit false
set_option maxRecDepth 100000
set_option maxHeartbeats 4000000
/-! own layer M: own lists, texts, data compared -/
namespace Lay
open PySem PySem.Spec PyProof.Rows L2
section
variable {K : PySem.W.Frag} {te ta tb tl to_ ti : TE} {tt tu : TT} {ts tr : TS} {tas : TA} {ss : List (Option DV)} {F : Hp} {P P' : DV → Hp → Prop} {a b d : DV} {N : List (Option DV) → Hp → Prop} {R : DV → Hp → Prop} {c c1 c2 : Bool} {ds es : List DV} {φ : List DV → DV → Prop} {E : L2.St → XK}
theorem RepL.tabI {G : Hp} {vs : List V} {m : Int} {f : Int → Int} (h : RepL K G vs (tab m fun v => .i (f v))) : vs = (tab m f).map V.int := by
  refine List.ext_getElem? fun i => ?_
  have hl := h.1
  rw [tab_length] at hl
  by_cases hi : i < m.toNat
  · obtain ⟨v, hv, r⟩ := h.get (tab_get hi)
    rw [hv, tab_map, tab_get hi, r.int_inv]
  · rw [List.getElem?_eq_none (by omega), List.getElem?_eq_none (by rw [List.length_map, tab_length]; omega)]
theorem RepL.tabB {G : Hp} {vs : List V} {m : Int} {f : Int → Bool} (h : RepL K G vs (tab m fun v => .b (f v))) : vs = (tab m f).map V.bl := by
  refine List.ext_getElem? fun i => ?_
  have hl := h.1
  rw [tab_length] at hl
  by_cases hi : i < m.toNat
  · obtain ⟨v, hv, r⟩ := h.get (tab_get hi)
    rw [hv, tab_map, tab_get hi, r.bl_inv]
  · rw [List.getElem?_eq_none (by omega), List.getElem?_eq_none (by rw [List.length_map, tab_length]; omega)]
theorem RepL.ints_inv {G : Hp} {vs : List V} {xs : List Int} (h : RepL K G vs (xs.map DV.i)) : vs = xs.map V.int := by
  refine List.ext_getElem? fun i => ?_
  have hl := h.1
  rw [List.length_map] at hl
  by_cases hi : i < xs.length
  · obtain ⟨v, hv, r⟩ := h.get (d := .i xs[i]) (by rw [List.getElem?_map, List.getElem?_eq_getElem hi]; rfl)
    rw [hv, List.getElem?_map, List.getElem?_eq_getElem hi, r.int_inv]
    rfl
  · rw [List.getElem?_eq_none (by omega), List.getElem?_eq_none (by rw [List.length_map]; omega)]
theorem RepL.strs_inv {G : Hp} {vs : List V} {xs : List Str} (h : RepL K G vs (xs.map DV.s)) : vs = xs.map V.str := by
  refine List.ext_getElem? fun i => ?_
  have hl := h.1
  rw [List.length_map] at hl
  by_cases hi : i < xs.length
  · obtain ⟨v, hv, r⟩ := h.get (d := .s xs[i]) (by rw [List.getElem?_map, List.getElem?_eq_getElem hi]; rfl)
    rw [hv, List.getElem?_map, List.getElem?_eq_getElem hi, r.str_inv]
    rfl
  · rw [List.getElem?_eq_none (by omega), List.getElem?_eq_none (by rw [List.length_map]; omega)]
theorem RepL.strs {G : Hp} {xs : List Str} : RepL K G (xs.map V.str) (xs.map DV.s) := by
  have h := RepL.flat (K := K) (G := G) (vs := xs.map V.str) fun v hv => by
    obtain ⟨i, _, rfl⟩ := List.mem_map.mp hv
    exact True.intro
  rw [List.map_map] at h
  exact h
theorem tab_set {α : Type} {m k : Int} {f : Int → α} {x : α} (h0 : 0 ≤ k) : (tab m f).set k.toNat x = tab m fun v => if v = k then x else f v := by
  refine List.ext_getElem? fun i => ?_
  rw [List.getElem?_set]
  by_cases hi : i < m.toNat
  · rw [tab_get (f := fun v => if v = k then x else f v) hi]
    by_cases hk : k.toNat = i
    · rw [if_pos hk, if_pos (by rw [tab_length]; exact hk ▸ hi)]
      have e : (i : Int) = k := by omega
      simp [e]
    · have e : ¬ (i : Int) = k := by omega
      rw [if_neg hk, tab_get hi]
      simp [e]
  · rw [List.getElem?_eq_none (by rw [tab_length]; omega : (tab m fun v => if v = k then x else f v).length ≤ i)]
    split
    · rw [tab_length, if_neg (by omega)]
    · rw [List.getElem?_eq_none (by rw [tab_length]; omega)]
theorem tab_congr {α : Type} {m : Int} {f g : Int → α} (h : ∀ v, 0 ≤ v → v < m → f v = g v) : tab m f = tab m g := by
  unfold tab
  refine List.map_congr_left fun k hk => h _ (by omega) ?_
  have := List.mem_range.mp hk
  omega
/-- the slot's own list goes over to G -/
theorem RnF.freeze {i : Nat} {p : Addr} {F0 : Hp} {vs : List V} (hv : ss[i]? = some (some (.m p))) (hF : F = upd F0 p (.lst vs)) (gF0 : Good F0) (hp : F0 p = none) (hr : ∀ G, RepL K G vs ds) (h : RnF K ts (ss.set i (some (.l ds))) F0 N R) : RnF K ts ss F N R := fun σ G o D nx rt => by
  subst hF
  have hG : G p = none := (o.dj p).resolve_right fun z => by rw [upd_same] at z; cases z
  have g : Gr G (upd G p (.lst vs)) F0 := .ice o.dj o.gG gF0 hp
  rw [joi_ice hG]
  obtain ⟨v, h1, h2⟩ := o.sg.2 i _ hv
  obtain rfl := h2.m_inv
  have sg : Sg K (upd G p (.lst vs)) σ (ss.set i (some (.l ds))) := by
    have z := (o.sg.same g.sm).set (j := i) (v := .ref p) (d := .l ds) (.l upd_same (hr G).1 (hr (upd G p (.lst vs))).2)
    have e : σ.set i (some (.ref p)) = σ := by
      refine List.ext_getElem? fun k => ?_
      rw [List.getElem?_set]
      by_cases hk : i = k
      · subst hk
        have hlt := (List.getElem?_eq_some_iff.mp h1).1
        rw [if_pos rfl, if_pos hlt, h1]
      · rw [if_neg hk]
    rwa [e] at z
  exact h σ _ ⟨sg, g.dj, g.gG, g.gF⟩ D (fun σ' ss' G' F' g2 s p => nx σ' ss' G' F' (g.trans g2) s p) (rt.gr g)
/-- x[k], the list in F -/
theorem EvF.ixF {p : Addr} {vs : List V} {k : Int} {v : V} (ha : EvD K ta ss (.m p)) (hb : EvD K tb ss (.i k)) (hF : F p = some (.lst vs)) (h : atI vs k = some v) (hv : flat0 v) (q : P (up v) F) : EvF K (tOp (rIxL K) ta tb) ss F P := fun σ G o Q go =>
  ha.at o fun x G1 g1 rx => hb.at (o.gr g1) fun y G2 g2 ry => by
    obtain rfl := rx.m_inv
    obtain rfl := ry.int_inv
    have hG : G2 p = none := (g2.dj p).resolve_right fun z => by rw [hF] at z; cases z
    exact ⟨p, vs, k, v, rfl, rfl, .of (by rw [joi_r hG]; exact hF), h, go v (up v) G2 F (g1.trans g2) (Rep.up hv) q⟩
/-- x[k] = e, the list in F -/
theorem RnF.setF {p : Addr} {vs : List V} {k : Int} {j : Nat} {v : V} (he : EvD K te ss d) (hx : EvD K to_ ss (.m p)) (hi : EvD K ti ss (.i k)) (hF : F p = some (.lst vs)) (hj : ixN vs.length k = some j) (hd : ∀ G u, Rep K G u d → u = v) (hn : N ss (upd F p (.lst (vs.set j v)))) :
    RnF K (tAsg te (gSub to_ ti rSetL)) ss F N R := fun σ G o D nx rt =>
  he.at o fun y G1 g1 ry => hx.at (o.gr g1) fun x G2 g2 rx => hi.at (o.gr (g1.trans g2)) fun z G3 g3 rz => by
    obtain rfl := rx.m_inv
    obtain rfl := rz.int_inv
    have e := hd G1 y ry
    subst e
    have hG : G3 p = none := (g3.dj p).resolve_right fun z => by rw [hF] at z; cases z
    refine ⟨p, vs, k, j, rfl, rfl, by rw [joi_r hG]; exact hF, hj, ?_⟩
    rw [joi_put hG]
    have g4 : Gr G3 G3 (upd F p (.lst (vs.set j y))) := .put g3.dj g3.gG g3.gF hF
    exact nx σ ss G3 _ (((g1.trans g2).trans g3).trans g4) (o.gr ((g1.trans g2).trans g3)).sg hn
theorem ixN_tab {n : Nat} {k : Int} (h0 : 0 ≤ k) (h1 : k < n) : ixN n k = some k.toNat := by
  unfold ixN
  rw [if_pos h0, if_pos h1]
theorem EvD.lenTab {α : Type} {m : Int} {f : Int → DV} (h : EvD K te ss (.l (tab m f))) (h0 : 0 ≤ m) : EvD K (tCB (rLenS K) (tCons te tNil)) ss (.i m) := by
  have z := EvD.len h
  rw [tab_length] at z
  have e : ((m.toNat : Nat) : Int) = m := by omega
  rwa [e] at z
abbrev rInt1 : List V → Hp → VK → Prop := fun xs H Q => (∃ i, xs = [.int i] ∧ Q (.int i) H) ∨ ∃ k, xs = [.bl k] ∧ Q (.int (if k then 1 else 0)) H
theorem EvD.intI {i : Int} (h : EvD K te ss (.i i)) : EvD K (tCB rInt1 (tCons te tNil)) ss (.i i) := .cb (.cons h .nil) fun G F vs dj gG gF r Q q => by
  obtain ⟨v, rfl, rv⟩ := r.one
  obtain rfl := rv.int_inv
  exact .inl ⟨i, rfl, q _ G (.refl dj gG gF) (.i _)⟩
def bI (b : Bool) : Int := if b then 1 else 0
theorem EvD.intB {b : Bool} (h : EvD K te ss (.b b)) : EvD K (tCB rInt1 (tCons te tNil)) ss (.i (bI b)) := .cb (.cons h .nil) fun G F vs dj gG gF r Q q => by
  obtain ⟨v, rfl, rv⟩ := r.one
  obtain rfl := rv.bl_inv
  exact .inr ⟨b, rfl, q _ G (.refl dj gG gF) (.i _)⟩
theorem eqv_nil (xs : List Int) : PyData.eqv (.list (xs.map PyData.int)) (.list []) = xs.isEmpty := by cases xs <;> simp [PyData.eqv, PyData.eqvAll]
theorem EvD.eqNil {xs : List Int} (ha : EvD K ta ss (.l (xs.map DV.i))) (hb : EvD K tb ss (.l [])) : EvD K (tOp (rEqD K) ta tb) ss (.b xs.isEmpty) :=
  .op ha hb fun G F x y dj gG gF rx ry Q q => ⟨_, _, dp_ints rx, dp_ints (xs := []) ry, PySem.W.ke_shaped_ints xs, rfl, by
    rw [show (([] : List Int).map PyData.int) = [] from rfl, eqv_nil]
    exact q _ G (.refl dj gG gF) (.b _)⟩
theorem EvD.neNil {xs : List Int} (ha : EvD K ta ss (.l (xs.map DV.i))) (hb : EvD K tb ss (.l [])) : EvD K (tOp (rNeD K) ta tb) ss (.b (!xs.isEmpty)) :=
  .op ha hb fun G F x y dj gG gF rx ry Q q => ⟨_, _, dp_ints rx, dp_ints (xs := []) ry, PySem.W.ke_shaped_ints xs, rfl, by
    rw [show (([] : List Int).map PyData.int) = [] from rfl, eqv_nil]
    exact q _ G (.refl dj gG gF) (.b _)⟩
abbrev rJoinS (K : PySem.W.Frag) : V → List V → Hp → VK → Prop := fun x xs H Q => ∃ a p, ∃ ys : List Str, x = .str a ∧ xs = [.ref p] ∧ (SqL K H p (ys.map V.str) ∨ SqT K H p (ys.map V.str)) ∧ (ys.map (·.length)).sum + ys.length * a.length ≤ 16777216 ∧ Q (.str (Txt.join a ys)) H
theorem EvD.join {z : Str} {ys : List Str} (ha : EvD K ta ss (.s z)) (hb : EvD K tb ss (.l (ys.map DV.s))) (hz : (ys.map (·.length)).sum + ys.length * z.length ≤ 16777216) : EvD K (tM1 (rJoinS K) ta tb) ss (.s (Str.join z ys)) := .mk fun σ G F o Q q =>
  ha.at o fun x G1 g1 rx => ⟨⟨z, rx.str_inv⟩, hb.at (o.gr g1) fun y G2 g2 ry => by
    obtain ⟨p, vs, rfl, hp, hr⟩ := ry.l_inv
    have e := hr.strs_inv
    subst e
    refine ⟨z, p, ys, rx.str_inv, rfl, .inl (.of (joi_l hp)), hz, ?_⟩
    rw [TL.join_eq]
    exact q _ G2 (g1.trans g2) (.s _)⟩
end
theorem ixl (K : PySem.W.Frag) {X : Cx} (h : X.K = K := by rfl) : IxR X (rIxL K) := h ▸ ix_list
theorem inr' (K : PySem.W.Frag) {X : Cx} (h : X.K = K := by rfl) : OpR X (compareOp .In) (rIn K false) := h ▸ op_in_seq
theorem notinr (K : PySem.W.Frag) {X : Cx} (h : X.K = K := by rfl) : OpR X (compareOp .NotIn) (rIn K true) := h ▸ op_notIn_seq
theorem lenr (K : PySem.W.Frag) {X : Cx} (h : X.K = K := by rfl) : CallR X (.builtin "len") (rLenS K) := h ▸ call_len_seq
theorem listr (K : PySem.W.Frag) {X : Cx} (h : X.K = K := by rfl) : CallR X (.type "list") (rListOf K) := h ▸ call_list_of
theorem isir (K : PySem.W.Frag) {X : Cx} (h : X.K = K := by rfl) : CallR X (.builtin "isinstance") (rIsi K) := h ▸ call_isi
theorem fldr (K : PySem.W.Frag) {X : Cx} {e : Expr} {ta : TE} {f : Str} {pos : Pos} (he : PE X e ta) (hb : attributeBase e f X.env (eval e X.env) = eval e X.env) (h : X.K = K := by rfl) : PE X (.Attribute e f pos) (tFld K ta f) := h ▸ pe_fld he hb
theorem upd_comm {H : Hp} {p q : Addr} {o u : HO} (h : p ≠ q) : upd (upd H p o) q u = upd (upd H q u) p o := by
  funext b
  by_cases h1 : b = q
  · subst h1; rw [upd_same, upd_ne (Ne.symm h), upd_same]
  · rw [upd_ne h1]
    by_cases h2 : b = p
    · subst h2; rw [upd_same, upd_same]
    · rw [upd_ne h2, upd_ne h2, upd_ne h1]
end Lay
end
section
set_option Elab.async false
set_option linter.all false
set_option autoImplicit false
set_option maxRecDepth 100000
set_option maxHeartbeats 4000000
namespace Lay
open PySem PySem.Spec PyProof.Rows L2


def mods : Unit := ()
def ph_names (ds : List DV) (d : DV) : Prop := ds = [] ∧ d = .l ([0, 1, 2, 3].map fun k => .s (modeN k))
/-- nothing done yet -/
def St0 (n : Int) : St := ⟨n, fun v => v + 1, fun v => v - 1, fun _ => false⟩
theorem wf0 {n : Int} (h0 : 0 ≤ n) (h1 : n ≤ 60) : Wf (St0 n) := ⟨h0, h1, fun v a b => by show v < v + 1; omega, fun v a b => by show v + 1 ≤ n + 1; have : v ≤ n := b; omega, (by show n + 1 + 1 = n + 2; omega), fun v a b => by show 0 ≤ v - 1; omega, fun v a b => by show v - 1 < v; omega, rfl, rfl, rfl⟩
def ph_whole (ds : List DV) (d : DV) : Prop := ∃ n : Int, 0 ≤ n ∧ n ≤ 60 ∧ ds = [.i n] ∧ d = (St0 n).D
/-- one operation done -/
def aft (s : St) (op : Int) : St := ⟨s.n, fun g => if g = s.L (iabs op) then (if op < 0 then s.R (iabs op) else iabs op) else s.R g, fun g => if g = s.R (iabs op) then (if op < 0 then s.L (iabs op) else iabs op) else s.L g, fun g => if g = iabs op then decide (op < 0) else s.O g⟩
theorem leg_neg {s : St} {op : Int} (h : Leg s op) : (op < 0 ↔ s.O (iabs op) = false) := by
  have e := h.on
  have l := h.lo
  unfold opOn at e
  cases q : s.O (iabs op) with
  | true => rw [q, if_pos rfl] at e; constructor <;> intro z <;> first | omega | cases z
  | false => rw [q, if_neg (by simp)] at e; exact ⟨fun _ => rfl, fun _ => by omega⟩
theorem wf_aft {s : St} {op : Int} (hW : Wf s) (hL : Leg s op) : Wf (aft s op) := by
  have n0 := hW.n0
  have l1 := hL.lo
  have l2 := hL.hi
  have a0 := hW.l0 (iabs op) l1 (by omega)
  have a1 := hW.l1 (iabs op) l1 (by omega)
  have b0 := hW.r0 (iabs op) (by omega) l2
  have b1 := hW.r1 (iabs op) (by omega) l2
  refine ⟨hW.n0, hW.n1, fun v h0 h1 => ?_, fun v h0 h1 => ?_, ?_, fun v h0 h1 => ?_, fun v h0 h1 => ?_, ?_, ?_, ?_⟩
  · have z := hW.r0 v h0 h1
    show v < if v = s.L (iabs op) then (if op < 0 then s.R (iabs op) else iabs op) else s.R v
    split
    · split <;> omega
    · exact z
  · have z := hW.r1 v h0 h1
    show (if v = s.L (iabs op) then (if op < 0 then s.R (iabs op) else iabs op) else s.R v) ≤ s.n + 1
    split
    · split <;> omega
    · exact z
  · show (if s.n + 1 = s.L (iabs op) then (if op < 0 then s.R (iabs op) else iabs op) else s.R (s.n + 1)) = s.n + 2
    rw [if_neg (by omega)]
    exact hW.rz
  · have z := hW.l0 v h0 h1
    show 0 ≤ if v = s.R (iabs op) then (if op < 0 then s.L (iabs op) else iabs op) else s.L v
    split
    · split <;> omega
    · exact z
  · have z := hW.l1 v h0 h1
    show (if v = s.R (iabs op) then (if op < 0 then s.L (iabs op) else iabs op) else s.L v) < v
    split
    · split <;> omega
    · exact z
  · show (if 0 = s.R (iabs op) then (if op < 0 then s.L (iabs op) else iabs op) else s.L 0) = -1
    rw [if_neg (by omega)]
    exact hW.lz
  · show (if 0 = iabs op then decide (op < 0) else s.O 0) = false
    rw [if_neg (by omega)]
    exact hW.o0
  · show (if s.n + 1 = iabs op then decide (op < 0) else s.O (s.n + 1)) = false
    rw [if_neg (by omega)]
    exact hW.o1
def ph_after (ds : List DV) (d : DV) : Prop := ∃ s op, Wf s ∧ 1 ≤ iabs op ∧ iabs op ≤ s.n ∧ ds = [s.D, .i op] ∧ d = (aft s op).D
def ph_gap (ds : List DV) (d : DV) : Prop := ∃ s g, Wf s ∧ 0 ≤ g ∧ g ≤ s.n ∧ ds = [s.D, .i g] ∧ d = .s (gapT s g)
def gapsD (s : St) : DV := .l (tab (s.n + 1) fun g => .s (gapT s g))
def ph_gaps (ds : List DV) (d : DV) : Prop := ∃ s, Wf s ∧ ds = [s.D] ∧ d = gapsD s
def ph_lforeign (ds : List DV) (d : DV) : Prop := ∃ s op, Wf s ∧ Leg s op ∧ ds = [s.D, .i op] ∧ d = .l ((forL s (iabs op)).map DV.i)
def ph_stands (ds : List DV) (d : DV) : Prop := ∃ s op, Wf s ∧ Leg s op ∧ ds = [s.D, .i op] ∧ d = .b (loc s op)
section
variable {w : World} {K : PySem.W.Frag} {mg : Str → Option Value} {base : Heap}

theorem ok_ulaw_names (T : TX K mg) : FnR PW w K mg base CX0 1 (gA "_law_names" K) (PD K (Pu ph_names)) := by
  obtain ⟨fd, F⟩ := f_ulaw_names T
  refine fnD_of F n_ulaw_names (F.bindsN fun _ _ _ _ _ _ us hl => match us, hl with | [], _ => rfl) (fun ds F P ⟨d, ⟨e, _⟩, _⟩ => by rw [e]; rfl) fun cdv A outer s H E hr => ⟨_, PSs.nox
    (pss_one (ps_ret (pe_lst (pa_cons pe_str (pa_cons pe_str (pa_cons pe_str (pa_cons pe_str pa_nil))))))), fun ds F P h gF => ?_⟩
  obtain ⟨d, ⟨rfl, rfl⟩, hP⟩ := h
  refine .ret (.evf (.lst (ds := [.s "free", .s "saving", .s "guarded", .s "checked"]) (.cons .str (.cons .str (.cons .str (.cons .str .nil)))) (by rw [sizeLine_eq]; show 4 ≤ 16777216; omega)) ?_)
  exact hP

theorem ok_ulaw_whole (T : TX K mg) : FnR PW w K mg base CX0 1 (gA "_law_whole" K) (PD K (Pu ph_whole)) := by
  obtain ⟨fd, F⟩ := f_ulaw_whole T
  refine fnD_of F n_ulaw_whole (F.bindsN fun _ _ _ _ _ _ us hl => match us, hl with | [_], _ => rfl) (fun ds F P ⟨d, ⟨_, _, _, e, _⟩, _⟩ => by rw [e]; rfl) fun cdv A outer s H E hr => ⟨_, PSs.nox
    (pss_cons (ps_setLc (i := 1) (own := [("_law_node", 3)]) (g := gName 3) rfl n_ulaw_whole.nd rfl rfl (sw_true rfl rfl rfl (by decide +kernel)) (pi_range1 (by rfl) (b_range T) (pa_cons (pe_op op_add (pv 0) pe_int) pa_nil)) (blkOk_by (own := [("_law_node", 3)]) (N := ["_law_size_here", "_law_rights", "_law_lefts", "_law_node"]) (sc := defScope st_ulaw_whole) (by decide +kernel)) (fun _ _ _ _ _ => pg_name (i := 3) n_ulaw_whole.nd rfl (Or.inl rfl)) (fun _ _ _ _ _ => pts_nil) (fun _ _ _ _ _ => (pe_op op_add (pv 3) pe_int)))
      (pss_cons (ps_setLc (i := 2) (own := [("_law_node", 3)]) (g := gName 3) rfl n_ulaw_whole.nd rfl rfl (sw_true rfl rfl rfl (by decide +kernel)) (pi_range1 (by rfl) (b_range T) (pa_cons (pe_op op_add (pv 0) pe_int) pa_nil)) (blkOk_by (own := [("_law_node", 3)]) (N := ["_law_size_here", "_law_rights", "_law_lefts", "_law_node"]) (sc := defScope st_ulaw_whole) (by decide +kernel)) (fun _ _ _ _ _ => pg_name (i := 3) n_ulaw_whole.nd rfl (Or.inl rfl)) (fun _ _ _ _ _ => pts_nil) (fun _ _ _ _ _ => (pe_op op_sub (pv 3) pe_int)))
      (pss_one (ps_ret (pe_lst (pa_cons (pv 1) (pa_cons (pv 2) (pa_cons (pe_lc (own := [("_law_node", 3)]) (g := gName 3) rfl n_ulaw_whole.nd (pi_range1 (by rfl) (b_range T) (pa_cons (pe_op op_add (pv 0) pe_int) pa_nil)) (blkOk_by (own := [("_law_node", 3)]) (N := ["_law_size_here", "_law_rights", "_law_lefts", "_law_node"]) (sc := defScope st_ulaw_whole) (by decide +kernel)) (fun _ _ _ _ _ => pg_name (i := 3) n_ulaw_whole.nd rfl (Or.inl rfl)) (fun _ _ _ _ _ => pts_nil) (fun _ _ _ _ _ => pe_bl)) pa_nil)))))))), fun ds F P h gF => ?_⟩
  obtain ⟨d, ⟨n, h0, h1, rfl, rfl⟩, hP⟩ := h
  refine .seq (.asg (.evf (.lcY1 (f := fun v => .i (v + 1)) (.add (.var rfl) .int) (fun v _ _ => .add (.var rfl) .int) (by omega) (by omega)) ?_))
  refine .seq (.asg (.evf (.lcY1 (f := fun v => .i (v - 1)) (.add (.var rfl) .int) (fun v _ _ => .sub (.var rfl) .int) (by omega) (by omega)) ?_))
  exact .ret (.evf (.lst (.cons (.var rfl) (.cons (.var rfl) (.cons (.lcY1 (f := fun _ => .b false) (.add (.var rfl) .int) (fun v _ _ => .bl) (by omega) (by omega)) .nil))) (by rw [sizeLine_eq]; show 3 ≤ 16777216; omega)) hP)

theorem ok_ulaw_after (T : TX K mg) : FnR PW w K mg base CX0 1 (gA "_law_after" K) (PD K (Pu ph_after)) := by
  obtain ⟨fd, F⟩ := f_ulaw_after T
  refine fnD_of F n_ulaw_after (F.bindsN fun _ _ _ _ _ _ us hl => match us, hl with | [_, _], _ => rfl) (fun ds F P ⟨d, ⟨_, _, _, _, _, e, _⟩, _⟩ => by rw [e]; rfl) fun cdv A outer s H E hr => ⟨_, PSs.nox
    (pss_cons (ps_set (i := 2) n_ulaw_after.nd rfl (by first | exact .inl rfl | exact .inr rfl) (pe_callTy call_list_of (by rfl) (b_list T) boot_list' (pa_cons (pe_ix ix_list (pv 0) pe_int (fun _ _ => rfl)) pa_nil)))
      (pss_cons (ps_set (i := 3) n_ulaw_after.nd rfl (by first | exact .inl rfl | exact .inr rfl) (pe_callTy call_list_of (by rfl) (b_list T) boot_list' (pa_cons (pe_ix ix_list (pv 0) pe_int (fun _ _ => rfl)) pa_nil)))
      (pss_cons (ps_set (i := 4) n_ulaw_after.nd rfl (by first | exact .inl rfl | exact .inr rfl) (pe_callTy call_list_of (by rfl) (b_list T) boot_list' (pa_cons (pe_ix ix_list (pv 0) pe_int (fun _ _ => rfl)) pa_nil)))
      (pss_cons (ps_set (i := 5) n_ulaw_after.nd rfl (by first | exact .inl rfl | exact .inr rfl) (pe_callB call_abs (by rfl) (b_abs T) boot_abs' (pa_cons (pv 1) pa_nil)))
      (pss_cons (ps_set (i := 6) n_ulaw_after.nd rfl (by first | exact .inl rfl | exact .inr rfl) (pe_ix ix_list (pv 3) (pv 5) (fun _ _ => rfl)))
      (pss_cons (ps_set (i := 7) n_ulaw_after.nd rfl (by first | exact .inl rfl | exact .inr rfl) (pe_ix ix_list (pv 2) (pv 5) (fun _ _ => rfl)))
      (pss_cons (ps_if (pt_cmpR op_lt (pv 1) pe_int (nomark _)) (pss_cons (ps_asg (pv 7) (pg_sub (pv 2) (pv 6) set_list))
      (pss_one (ps_asg (pv 6) (pg_sub (pv 3) (pv 7) set_list)))) (pss_cons (ps_asg (pv 5) (pg_sub (pv 2) (pv 6) set_list))
      (pss_one (ps_asg (pv 5) (pg_sub (pv 3) (pv 7) set_list)))))
      (pss_cons (ps_asg (pe_cmpR op_lt (pv 1) pe_int (nomark _)) (pg_sub (pv 4) (pv 5) set_list))
      (pss_one (ps_ret (pe_lst (pa_cons (pv 2) (pa_cons (pv 3) (pa_cons (pv 4) pa_nil)))))))))))))), fun ds F P h gF => ?_⟩
  obtain ⟨d, ⟨s, op, hW, h0, h1, rfl, rfl⟩, hP⟩ := h
  have n0 := hW.n0
  have a0 := hW.l0 (iabs op) h0 (by omega)
  have a1 := hW.l1 (iabs op) h0 (by omega)
  have b0 := hW.r0 (iabs op) (by omega) h1
  have b1 := hW.r1 (iabs op) (by omega) h1
  refine .seq (.asg (EvF.listF (.ixL (.var rfl) .int rfl) fun p0 G0 vs0 hn0 hr0 => ?_))
  refine .seq (.asg (EvF.listF (.ixL (.var rfl) .int rfl) fun p1 G1 vs1 hn1 hr1 => ?_))
  refine .seq (.asg (EvF.listF (.ixL (.var rfl) .int rfl) fun p2 G2 vs2 hn2 hr2 => ?_))
  have e0 := hr0.tabI
  have e1 := hr1.tabI
  have e2 := hr2.tabB
  subst e0 e1 e2
  have n10 : p1 ≠ p0 := fun z => by rw [z, upd_same] at hn1; cases hn1
  have n20 : p2 ≠ p0 := fun z => by rw [z, upd_ne (Ne.symm n10), upd_same] at hn2; cases hn2
  have n21 : p2 ≠ p1 := fun z => by rw [z, upd_same] at hn2; cases hn2
  have hp1 : F p1 = none := by rw [upd_ne n10] at hn1; exact hn1
  have hp2 : F p2 = none := by rw [upd_ne n21, upd_ne n20] at hn2; exact hn2
  refine .seq (.asg (.evf (.abs (.var rfl)) ?_))
  refine .seq (.asg (EvF.ixF (.var rfl) (.var rfl) (v := .int (s.L (iabs op))) (by rw [upd_ne (Ne.symm n21), upd_same]) (by rw [tab_map]; exact atI_tab (by omega) (by omega)) True.intro ?_))
  refine .seq (.asg (EvF.ixF (.var rfl) (.var rfl) (v := .int (s.R (iabs op))) (by rw [upd_ne (Ne.symm n20), upd_ne (Ne.symm n10), upd_same]) (by rw [tab_map]; exact atI_tab (by omega) (by omega)) True.intro ?_))
  refine .seq (RnF.mono (N := fun ss' F' => ss' = [some s.D, some (.i op), some (.m p0), some (.m p1), some (.m p2), some (.i (iabs op)), some (.i (s.L (iabs op))), some (.i (s.R (iabs op)))] ∧ F' = upd (upd (upd F p0 (.lst ((tab (s.n + 1) (aft s op).R).map V.int))) p1 (.lst ((tab (s.n + 2) (aft s op).L).map V.int))) p2 (.lst ((tab (s.n + 2) s.O).map V.bl)))
    (R := P) (.ifB (c := decide (op < 0)) (.test (.lt (.var rfl) .int)) (fun e => ?_) (fun e => ?_)) (fun ss' F' ⟨e1, e2⟩ => ?_) (fun _ _ z => z))
  · have e := of_decide_eq_true e
    refine .seq (.setF (p := p0) (v := .int (s.R (iabs op))) (.var rfl) (.var rfl) (.var rfl) (by rw [upd_ne (Ne.symm n20), upd_ne (Ne.symm n10), upd_same]) (ixN_tab a0 (by rw [List.length_map, tab_length]; omega)) (fun G u r => r.int_inv) ?_)
    refine .setF (p := p1) (v := .int (s.L (iabs op))) (.var rfl) (.var rfl) (.var rfl) (by rw [upd_ne n10, upd_ne (Ne.symm n21), upd_same]) (ixN_tab (by omega) (by rw [List.length_map, tab_length]; omega)) (fun G u r => r.int_inv) ?_
    rw [upd_comm n20, upd_comm n10, upd_upd, upd_comm n21, upd_upd, tab_map, tab_map, tab_set a0, tab_set (by omega)]
    have hR : (tab (s.n + 1) fun v => if v = s.L (iabs op) then V.int (s.R (iabs op)) else V.int (s.R v)) = (tab (s.n + 1) (aft s op).R).map V.int := by
      rw [tab_map]
      refine tab_congr fun v _ _ => ?_
      show _ = V.int (if v = s.L (iabs op) then (if op < 0 then s.R (iabs op) else iabs op) else s.R v)
      rw [if_pos e]
      split <;> rfl
    have hL : (tab (s.n + 2) fun v => if v = s.R (iabs op) then V.int (s.L (iabs op)) else V.int (s.L v)) = (tab (s.n + 2) (aft s op).L).map V.int := by
      rw [tab_map]
      refine tab_congr fun v _ _ => ?_
      show _ = V.int (if v = s.R (iabs op) then (if op < 0 then s.L (iabs op) else iabs op) else s.L v)
      rw [if_pos e]
      split <;> rfl
    rw [hR, hL]
    exact ⟨rfl, rfl⟩
  · have e := of_decide_eq_false e
    refine .seq (.setF (p := p0) (v := .int (iabs op)) (.var rfl) (.var rfl) (.var rfl) (by rw [upd_ne (Ne.symm n20), upd_ne (Ne.symm n10), upd_same]) (ixN_tab a0 (by rw [List.length_map, tab_length]; omega)) (fun G u r => r.int_inv) ?_)
    refine .setF (p := p1) (v := .int (iabs op)) (.var rfl) (.var rfl) (.var rfl) (by rw [upd_ne n10, upd_ne (Ne.symm n21), upd_same]) (ixN_tab (by omega) (by rw [List.length_map, tab_length]; omega)) (fun G u r => r.int_inv) ?_
    rw [upd_comm n20, upd_comm n10, upd_upd, upd_comm n21, upd_upd, tab_map, tab_map, tab_set a0, tab_set (by omega)]
    have hR : (tab (s.n + 1) fun v => if v = s.L (iabs op) then V.int (iabs op) else V.int (s.R v)) = (tab (s.n + 1) (aft s op).R).map V.int := by
      rw [tab_map]
      refine tab_congr fun v _ _ => ?_
      show _ = V.int (if v = s.L (iabs op) then (if op < 0 then s.R (iabs op) else iabs op) else s.R v)
      rw [if_neg e]
      split <;> rfl
    have hL : (tab (s.n + 2) fun v => if v = s.R (iabs op) then V.int (iabs op) else V.int (s.L v)) = (tab (s.n + 2) (aft s op).L).map V.int := by
      rw [tab_map]
      refine tab_congr fun v _ _ => ?_
      show _ = V.int (if v = s.R (iabs op) then (if op < 0 then s.L (iabs op) else iabs op) else s.L v)
      rw [if_neg e]
      split <;> rfl
    rw [hR, hL]
    exact ⟨rfl, rfl⟩
  · subst e1 e2
    refine .seq (.setF (p := p2) (.lt (.var rfl) .int) (.var rfl) (.var rfl) upd_same (ixN_tab (by omega) (by rw [List.length_map, tab_length]; omega)) (fun G u r => r.bl_inv) ?_)
    rw [upd_upd, tab_map (g := V.bl), tab_set (by omega)]
    have hO : (tab (s.n + 2) fun v => if v = iabs op then V.bl (decide (op < 0)) else V.bl (s.O v)) = (tab (s.n + 2) (aft s op).O).map V.bl := by
      rw [tab_map]
      refine tab_congr fun v _ _ => ?_
      show (if v = iabs op then V.bl (decide (op < 0)) else V.bl (s.O v)) = V.bl (if v = iabs op then decide (op < 0) else s.O v)
      split <;> rfl
    rw [hO]
    have gF0 : Good (upd F p0 (.lst ((tab (s.n + 1) (aft s op).R).map V.int))) := gF.new hn0 rfl
    have gF1 : Good (upd (upd F p0 (.lst ((tab (s.n + 1) (aft s op).R).map V.int))) p1 (.lst ((tab (s.n + 2) (aft s op).L).map V.int))) := gF0.new (by rw [upd_ne n10]; exact hp1) rfl
    refine RnF.freeze (i := 4) rfl rfl gF1 (by rw [upd_ne n21, upd_ne n20]; exact hp2) (fun G => by
      have r := RepL.bools (K := K) (G := G) (xs := tab (s.n + 2) (aft s op).O)
      rw [tab_map (g := DV.b)] at r
      exact r) ?_
    refine RnF.freeze (i := 3) rfl rfl gF0 (by rw [upd_ne n10]; exact hp1) (fun G => by
      have r := RepL.ints (K := K) (G := G) (xs := tab (s.n + 2) (aft s op).L)
      rw [tab_map (g := DV.i)] at r
      exact r) ?_
    refine RnF.freeze (i := 2) rfl rfl gF hn0 (fun G => by
      have r := RepL.ints (K := K) (G := G) (xs := tab (s.n + 1) (aft s op).R)
      rw [tab_map (g := DV.i)] at r
      exact r) ?_
    exact .ret (.evf (.lst (.cons (.var rfl) (.cons (.var rfl) (.cons (.var rfl) .nil))) (by rw [sizeLine_eq]; show 3 ≤ 16777216; omega)) hP)

theorem ok_ulaw_gap (T : TX K mg) : FnR PW w K mg base CX0 1 (gA "_law_gap" K) (PD K (Pu ph_gap)) := by
  obtain ⟨fd, F⟩ := f_ulaw_gap T
  refine fnD_of F n_ulaw_gap (F.bindsN fun _ _ _ _ _ _ us hl => match us, hl with | [_, _], _ => rfl) (fun ds F P ⟨d, ⟨_, _, _, _, _, e, _⟩, _⟩ => by rw [e]; rfl) fun cdv A outer s H E hr => ⟨_, PSs.nox
    (pss_cons (ps_set (i := 2) n_ulaw_gap.nd rfl (by first | exact .inl rfl | exact .inr rfl) (pe_cmpR op_eq (pe_ix ix_list (pe_ix ix_list (pv 0) pe_int (fun _ _ => rfl)) (pv 1) (fun _ _ => rfl)) (pe_op op_add (pv 1) pe_int) (nomark _)))
      (pss_cons (ps_set (i := 3) n_ulaw_gap.nd rfl (by first | exact .inl rfl | exact .inr rfl) (pe_cmpR op_eq (pe_ix ix_list (pe_ix ix_list (pv 0) pe_int (fun _ _ => rfl)) (pe_op op_add (pv 1) pe_int) (fun _ _ => rfl)) (pv 1) (nomark _)))
      (pss_cons (ps_if (PW.pt (pw_and (pt_val (pv 2)) (pw_and1 (pt_val (pv 3))))) (pss_one (ps_ret pe_str)) pss_nil)
      (pss_cons (ps_if (pt_val (pv 2)) (pss_one (ps_ret pe_str)) pss_nil)
      (pss_cons (ps_if (pt_val (pv 3)) (pss_one (ps_ret pe_str)) pss_nil)
      (pss_one (ps_ret pe_str))))))), fun ds F P h gF => ?_⟩
  obtain ⟨d, ⟨s, g, hW, h0, h1, rfl, rfl⟩, hP⟩ := h
  have n0 := hW.n0
  refine .seq (.asg (.evf (d := .b (lh s g)) (.eqI (.ixL (.ixL (.var rfl) .int rfl) (.var rfl) (atI_tab h0 (by omega))) (.add (.var rfl) .int)) ?_))
  refine .seq (.asg (.evf (d := .b (rh s g)) (.eqI (.ixL (.ixL (.var rfl) .int rfl) (.add (.var rfl) .int) (atI_tab (by omega) (by omega))) (.var rfl)) ?_))
  have hP2 := hP
  unfold gapT at hP2
  refine .seq (.ifB (.and (.val (.var rfl)) (fun _ => .val (.var rfl))) (fun e => .ret (.evf .str ?_)) (fun e => .nil ?_))
  · cases h1 : lh s g <;> cases h2 : rh s g <;> simp_all
  refine .seq (.ifB (.val (.var rfl)) (fun e1 => .ret (.evf .str ?_)) (fun e1 => .nil ?_))
  · cases h2 : rh s g <;> simp_all
  refine .seq (.ifB (.val (.var rfl)) (fun e2 => .ret (.evf .str ?_)) (fun e2 => .nil (.ret (.evf .str ?_))))
  · simpa [e1, e2] using hP2
  · simpa [e1, e2] using hP2

theorem ok_ulaw_gaps (T : TX K mg) : FnR PW w K mg base CX0 2 (gA "_law_gaps" K) (PD K (Pu ph_gaps)) := by
  obtain ⟨fd, F⟩ := f_ulaw_gaps T
  refine fnD_of F n_ulaw_gaps (F.bindsN fun _ _ _ _ _ _ us hl => match us, hl with | [_], _ => rfl) (fun ds F P ⟨d, ⟨_, _, e, _⟩, _⟩ => by rw [e]; rfl) fun cdv A outer s H E hr => ⟨_, PSs.nox
    (pss_one (ps_ret (pe_lc (own := [("_law_gap_here", 1)]) (g := gName 1) rfl n_ulaw_gaps.nd (pi_range1 (by rfl) (b_range T) (pa_cons (pe_callB call_len_seq (by rfl) (b_len T) boot_len' (pa_cons (pe_ix ix_list (pv 0) pe_int (fun _ _ => rfl)) pa_nil)) pa_nil)) (blkOk_by (own := [("_law_gap_here", 1)]) (N := ["_law_state", "_law_gap_here"]) (sc := defScope st_ulaw_gaps) (by decide +kernel)) (fun _ _ _ _ _ => pg_name (i := 1) n_ulaw_gaps.nd rfl (Or.inl rfl)) (fun _ _ _ _ _ => pts_nil) (fun _ _ _ _ _ => (pe_callR (ok_ulaw_gap T) (hr.mono (by decide)) rfl (g_ulaw_gap T) (k_ulaw_gap T) at0 (pa_cons (pv 0) (pa_cons (pv 1) pa_nil))))))), fun ds F P h gF => ?_⟩
  obtain ⟨d, ⟨s, hW, rfl, rfl⟩, hP⟩ := h
  have n0 := hW.n0
  have n1 := hW.n1
  exact .ret (.evf (.lcY1 (f := fun g => .s (gapT s g)) (.lenTab (α := Int) (.ixL (.var rfl) .int rfl) (by omega)) (fun g h0 h1 => .call (.cons (.var rfl) (.cons (.var rfl) .nil)) ⟨s, g, hW, h0, by omega, rfl, rfl⟩) (by omega) (by omega)) hP)

theorem ok_ulaw_foreign (T : TX K mg) : FnR PW w K mg base CX0 1 (gA "_law_foreign" K) (PD K (Pu ph_lforeign)) := by
  obtain ⟨fd, F⟩ := f_ulaw_foreign T
  refine fnD_of F n_ulaw_foreign (F.bindsN fun _ _ _ _ _ _ us hl => match us, hl with | [_, _], _ => rfl) (fun ds F P ⟨d, ⟨_, _, _, _, e, _⟩, _⟩ => by rw [e]; rfl) fun cdv A outer s H E hr => ⟨_, PSs.nox
    (pss_cons (ps_set (i := 2) n_ulaw_foreign.nd rfl (by first | exact .inl rfl | exact .inr rfl) (pe_callB call_abs (by rfl) (b_abs T) boot_abs' (pa_cons (pv 1) pa_nil)))
      (pss_cons (ps_set (i := 3) n_ulaw_foreign.nd rfl (by first | exact .inl rfl | exact .inr rfl) (pe_ix ix_list (pe_ix ix_list (pv 0) pe_int (fun _ _ => rfl)) (pv 2) (fun _ _ => rfl)))
      (pss_cons (ps_set (i := 4) n_ulaw_foreign.nd rfl (by first | exact .inl rfl | exact .inr rfl) (pe_ix ix_list (pe_ix ix_list (pv 0) pe_int (fun _ _ => rfl)) (pv 2) (fun _ _ => rfl)))
      (pss_cons (ps_set (i := 5) n_ulaw_foreign.nd rfl (by first | exact .inl rfl | exact .inr rfl) (pe_lst pa_nil))
      (pss_cons (ps_if (PW.pt (pw_and (pt_cmpR op_ne (pv 3) (pe_op op_sub (pv 2) pe_int) (nomark _)) (pw_and1 (pt_cmpR op_eq (pe_ix ix_list (pe_ix ix_list (pv 0) pe_int (fun _ _ => rfl)) (pv 3) (fun _ _ => rfl)) (pe_op op_add (pv 3) pe_int) (nomark _))))) (pss_one (ps_expr (pe_bm PySem.F.plainAttrs_list PySem.F.slot_list_append PySem.F.type_list_append mt_append (pv 5) (pa_cons (pv 3) pa_nil)))) pss_nil)
      (pss_cons (ps_if (PW.pt (pw_and (pt_cmpR op_ne (pv 4) (pe_op op_add (pv 2) pe_int) (nomark _)) (pw_and1 (pt_cmpR op_eq (pe_ix ix_list (pe_ix ix_list (pv 0) pe_int (fun _ _ => rfl)) (pv 4) (fun _ _ => rfl)) (pe_op op_sub (pv 4) pe_int) (nomark _))))) (pss_one (ps_expr (pe_bm PySem.F.plainAttrs_list PySem.F.slot_list_append PySem.F.type_list_append mt_append (pv 5) (pa_cons (pe_op op_sub (pv 4) pe_int) pa_nil)))) pss_nil)
      (pss_one (ps_ret (pv 5))))))))), fun ds F P h gF => ?_⟩
  obtain ⟨d, ⟨s, op, hW, hL, rfl, rfl⟩, hP⟩ := h
  have n0 := hW.n0
  have l1 := hL.lo
  have l2 := hL.hi
  have a0 := hW.l0 (iabs op) l1 (by omega)
  have a1 := hW.l1 (iabs op) l1 (by omega)
  have b0 := hW.r0 (iabs op) (by omega) l2
  have b1 := hW.r1 (iabs op) (by omega) l2
  refine .seq (.asg (.evf (.abs (.var rfl)) ?_))
  refine .seq (.asg (.evf (.ixL (.ixL (.var rfl) .int rfl) (.var rfl) (atI_tab (by omega) (by omega))) ?_))
  refine .seq (.asg (.evf (.ixL (.ixL (.var rfl) .int rfl) (.var rfl) (atI_tab (by omega) (by omega))) ?_))
  refine .seq (.asg (.nilF fun p hp => ?_))
  have er : rh s (s.R (iabs op) - 1) = decide (s.L (s.R (iabs op)) = s.R (iabs op) - 1) := by
    unfold rh
    rw [Int.sub_add_cancel]
  refine .seq (.ifB (c := fc1 s (iabs op)) (.and (.test (.neI (.var rfl) (.sub (.var rfl) .int))) (fun _ => .test (.eqI (.ixL (.ixL (.var rfl) .int rfl) (.var rfl) (atI_tab (by omega) (by omega))) (.add (.var rfl) .int)))) (fun e1 => ?_) (fun e1 => .nil ?_))
  · refine RnF.app (i := 5) (vs := []) rfl (.var rfl) rfl (by simp) (fun G v => rep_i) ?_
    refine .seq (.ifB (c := fc2 s (iabs op)) (by unfold fc2; rw [er]; exact .and (.test (.neI (.var rfl) (.add (.var rfl) .int))) (fun _ => .test (.eqI (.ixL (.ixL (.var rfl) .int rfl) (.var rfl) (atI_tab (by omega) (by omega))) (.sub (.var rfl) .int)))) (fun e2 => ?_) (fun e2 => .nil ?_))
    · refine RnF.app (i := 5) rfl (.sub (.var rfl) .int) rfl (by simp) (fun G v => rep_i) ?_
      refine RnF.retIce rfl rfl gF hp (fun G => RepL.ints (xs := [s.L (iabs op), s.R (iabs op) - 1])) ?_
      simpa [forL, e1, e2] using hP
    · refine RnF.retIce rfl rfl gF hp (fun G => RepL.ints (xs := [s.L (iabs op)])) ?_
      simpa [forL, e1, e2] using hP
  · refine .seq (.ifB (c := fc2 s (iabs op)) (by unfold fc2; rw [er]; exact .and (.test (.neI (.var rfl) (.add (.var rfl) .int))) (fun _ => .test (.eqI (.ixL (.ixL (.var rfl) .int rfl) (.var rfl) (atI_tab (by omega) (by omega))) (.sub (.var rfl) .int)))) (fun e2 => ?_) (fun e2 => .nil ?_))
    · refine RnF.app (i := 5) (vs := []) rfl (.sub (.var rfl) .int) rfl (by simp) (fun G v => rep_i) ?_
      refine RnF.retIce rfl rfl gF hp (fun G => RepL.ints (xs := [s.R (iabs op) - 1])) ?_
      simpa [forL, e1, e2] using hP
    · refine RnF.retIce rfl rfl gF hp (fun G => RepL.ints (xs := [])) ?_
      simpa [forL, e1, e2] using hP

theorem ok_ulaw_stands (T : TX K mg) : FnR PW w K mg base CX0 1 (gA "_law_stands" K) (PD K (Pu ph_stands)) := by
  obtain ⟨fd, F⟩ := f_ulaw_stands T
  refine fnD_of F n_ulaw_stands (F.bindsN fun _ _ _ _ _ _ us hl => match us, hl with | [_, _], _ => rfl) (fun ds F P ⟨d, ⟨_, _, _, _, e, _⟩, _⟩ => by rw [e]; rfl) fun cdv A outer s H E hr => ⟨_, PSs.nox
    (pss_cons (ps_set (i := 2) n_ulaw_stands.nd rfl (by first | exact .inl rfl | exact .inr rfl) (pe_callB call_abs (by rfl) (b_abs T) boot_abs' (pa_cons (pv 1) pa_nil)))
      (pss_cons (ps_set (i := 3) n_ulaw_stands.nd rfl (by first | exact .inl rfl | exact .inr rfl) (pe_ix ix_list (pe_ix ix_list (pv 0) pe_int (fun _ _ => rfl)) (pv 2) (fun _ _ => rfl)))
      (pss_cons (ps_set (i := 4) n_ulaw_stands.nd rfl (by first | exact .inl rfl | exact .inr rfl) (pe_ix ix_list (pe_ix ix_list (pv 0) pe_int (fun _ _ => rfl)) (pv 2) (fun _ _ => rfl)))
      (pss_cons (ps_if (PW.pt (pw_or (pt_val (pe_ix ix_list (pe_ix ix_list (pv 0) pe_int (fun _ _ => rfl)) (pv 3) (fun _ _ => rfl))) (pw_or1 (pt_val (pe_ix ix_list (pe_ix ix_list (pv 0) pe_int (fun _ _ => rfl)) (pv 4) (fun _ _ => rfl)))))) (pss_one (ps_ret pe_bl)) pss_nil)
      (pss_cons (ps_if (pt_cmpR op_lt (pv 1) pe_int (nomark _)) (pss_one (ps_ret (pe_and (pe_cmpR op_eq (pe_ix ix_list (pe_ix ix_list (pv 0) pe_int (fun _ _ => rfl)) (pv 3) (fun _ _ => rfl)) (pv 2) (nomark _)) (pe_one (pe_cmpR op_eq (pe_ix ix_list (pe_ix ix_list (pv 0) pe_int (fun _ _ => rfl)) (pv 4) (fun _ _ => rfl)) (pv 2) (nomark _)))))) pss_nil)
      (pss_one (ps_ret (pe_and (pe_cmpR op_eq (pe_ix ix_list (pe_ix ix_list (pv 0) pe_int (fun _ _ => rfl)) (pv 3) (fun _ _ => rfl)) (pv 4) (nomark _)) (pe_one (pe_cmpR op_eq (pe_ix ix_list (pe_ix ix_list (pv 0) pe_int (fun _ _ => rfl)) (pv 4) (fun _ _ => rfl)) (pv 3) (nomark _))))))))))), fun ds F P h gF => ?_⟩
  obtain ⟨d, ⟨s, op, hW, hL, rfl, rfl⟩, hP⟩ := h
  have n0 := hW.n0
  have l1 := hL.lo
  have l2 := hL.hi
  have a0 := hW.l0 (iabs op) l1 (by omega)
  have a1 := hW.l1 (iabs op) l1 (by omega)
  have b0 := hW.r0 (iabs op) (by omega) l2
  have b1 := hW.r1 (iabs op) (by omega) l2
  refine .seq (.asg (.evf (.abs (.var rfl)) ?_))
  refine .seq (.asg (.evf (.ixL (.ixL (.var rfl) .int rfl) (.var rfl) (atI_tab (by omega) (by omega))) ?_))
  refine .seq (.asg (.evf (.ixL (.ixL (.var rfl) .int rfl) (.var rfl) (atI_tab (by omega) (by omega))) ?_))
  refine .seq (.ifB (.or (.val (.ixL (.ixL (.var rfl) .int rfl) (.var rfl) (atI_tab (by omega) (by omega)))) (fun _ => .val (.ixL (.ixL (.var rfl) .int rfl) (.var rfl) (atI_tab (by omega) (by omega))))) (fun e1 => .ret (.evf .bl ?_)) (fun e1 => .nil ?_))
  · unfold loc at hP
    rw [if_pos e1] at hP
    exact hP
  · unfold loc at hP
    rw [if_neg (by rw [e1]; simp)] at hP
    refine .seq (.ifB (c := decide (op < 0)) (.test (.lt (.var rfl) .int)) (fun e2 => ?_) (fun e2 => .nil ?_))
    · rw [if_pos (of_decide_eq_true e2)] at hP
      exact .ret (.evf (.and (.eqI (.ixL (.ixL (.var rfl) .int rfl) (.var rfl) (atI_tab (by omega) (by omega))) (.var rfl)) (fun _ => .eqI (.ixL (.ixL (.var rfl) .int rfl) (.var rfl) (atI_tab (by omega) (by omega))) (.var rfl))) hP)
    · rw [if_neg (of_decide_eq_false e2)] at hP
      exact .ret (.evf (.and (.eqI (.ixL (.ixL (.var rfl) .int rfl) (.var rfl) (atI_tab (by omega) (by omega))) (.var rfl)) (fun _ => .eqI (.ixL (.ixL (.var rfl) .int rfl) (.var rfl) (atI_tab (by omega) (by omega))) (.var rfl))) hP)

end
end Lay
end
section
set_option Elab.async false
set_option linter.all false
set_option autoImplicit false
set_option maxRecDepth 100000
set_option maxHeartbeats 4000000
/-! plain laws: what is refused -/
namespace Lay
open PySem PySem.Spec PyProof.Rows L2
theorem gapT_lost {s : St} {g : Int} : gapT s g = "lost" ↔ lh s g = false ∧ rh s g = false := by
  unfold gapT
  cases lh s g <;> cases rh s g <;> simp <;> decide +kernel
theorem gapT_left {s : St} {g : Int} : gapT s g = "left" ↔ lh s g = true ∧ rh s g = false := by
  unfold gapT
  cases lh s g <;> cases rh s g <;> simp <;> decide +kernel
theorem gapT_right {s : St} {g : Int} : gapT s g = "right" ↔ lh s g = false ∧ rh s g = true := by
  unfold gapT
  cases lh s g <;> cases rh s g <;> simp <;> decide +kernel
section
variable {s : St} {op : Int}
/-- what a legal operation leans on -/
structure Rng (s : St) (op : Int) : Prop where
  l1 : 1 ≤ iabs op
  l2 : iabs op ≤ s.n
  a0 : 0 ≤ s.L (iabs op)
  a1 : s.L (iabs op) < iabs op
  b0 : iabs op < s.R (iabs op)
  b1 : s.R (iabs op) ≤ s.n + 1
theorem rng (hW : Wf s) (hL : Leg s op) : Rng s op := by
  have n0 := hW.n0
  have l1 := hL.lo
  have l2 := hL.hi
  exact ⟨l1, l2, hW.l0 (iabs op) l1 (by omega), hW.l1 (iabs op) l1 (by omega), hW.r0 (iabs op) (by omega) l2, hW.r1 (iabs op) (by omega) l2⟩
theorem lh_aft (g : Int) : lh (aft s op) g = if g = s.L (iabs op) then decide ((if op < 0 then s.R (iabs op) else iabs op) = s.L (iabs op) + 1) else lh s g := by
  unfold lh
  show decide ((if g = s.L (iabs op) then (if op < 0 then s.R (iabs op) else iabs op) else s.R g) = g + 1) = _
  by_cases h : g = s.L (iabs op)
  · rw [if_pos h, if_pos h, h]
  · rw [if_neg h, if_neg h]
theorem rh_aft (g : Int) : rh (aft s op) g = if g + 1 = s.R (iabs op) then decide ((if op < 0 then s.L (iabs op) else iabs op) = s.R (iabs op) - 1) else rh s g := by
  unfold rh
  show decide ((if g + 1 = s.R (iabs op) then (if op < 0 then s.L (iabs op) else iabs op) else s.L (g + 1)) = g) = _
  by_cases h : g + 1 = s.R (iabs op)
  · rw [if_pos h, if_pos h]
    have e : g = s.R (iabs op) - 1 := by omega
    rw [← e]
  · rw [if_neg h, if_neg h]
theorem loses_iff (r : Rng s op) : loses s (iabs op) = true ↔ (fc1 s (iabs op) = true ∧ rh s (s.L (iabs op)) = false) ∨ (fc2 s (iabs op) = true ∧ lh s (s.R (iabs op) - 1) = false) := by
  obtain ⟨l1, l2, a0, a1, b0, b1⟩ := r
  have h1 : isNon (holdV s (iabs op) (s.L (iabs op))) = !rh s (s.L (iabs op)) := by
    unfold holdV
    rw [if_pos rfl]
    cases rh s (s.L (iabs op)) <;> rfl
  have h2 : isNon (holdV s (iabs op) (s.R (iabs op) - 1)) = !lh s (s.R (iabs op) - 1) := by
    unfold holdV
    rw [if_neg (by omega)]
    cases lh s (s.R (iabs op) - 1) <;> rfl
  unfold loses forL
  cases e1 : fc1 s (iabs op) <;> cases e2 : fc2 s (iabs op) <;> simp [h1, h2]
theorem gap_new (hW : Wf s) (hL : Leg s op) : (∃ g, 0 ≤ g ∧ g < s.n + 1 ∧ gapT (aft s op) g = "lost" ∧ gapT s g ≠ "lost") ↔ loses s (iabs op) = true := by
  have r := rng hW hL
  obtain ⟨l1, l2, a0, a1, b0, b1⟩ := id r
  rw [loses_iff r]
  have hX : s.L (iabs op) ≠ iabs op - 1 → decide ((if op < 0 then s.R (iabs op) else iabs op) = s.L (iabs op) + 1) = false := fun h => by
    rw [decide_eq_false_iff_not]
    split <;> omega
  have hY : s.R (iabs op) ≠ iabs op + 1 → decide ((if op < 0 then s.L (iabs op) else iabs op) = s.R (iabs op) - 1) = false := fun h => by
    rw [decide_eq_false_iff_not]
    split <;> omega
  constructor
  · rintro ⟨g, g0, g1, h1, h2⟩
    obtain ⟨hl, hr⟩ := gapT_lost.mp h1
    rw [lh_aft] at hl
    rw [rh_aft] at hr
    have h2 : ¬ (lh s g = false ∧ rh s g = false) := fun z => h2 (gapT_lost.mpr z)
    by_cases ga : g = s.L (iabs op)
    · subst ga
      rw [if_pos rfl] at hl
      rw [if_neg (by omega)] at hr
      refine .inl ⟨?_, hr⟩
      have hlh : lh s (s.L (iabs op)) = true := by
        cases e : lh s (s.L (iabs op)) with
        | true => rfl
        | false => exact absurd ⟨e, hr⟩ h2
      unfold fc1
      rw [hlh, Bool.and_true, Bool.not_eq_true', decide_eq_false_iff_not]
      intro z
      have hrh : rh s (s.L (iabs op)) = true := by
        unfold rh
        rw [z, Int.sub_add_cancel, z]
        simp
      rw [hrh] at hr
      cases hr
    · rw [if_neg ga] at hl
      by_cases gb : g + 1 = s.R (iabs op)
      · have eg : g = s.R (iabs op) - 1 := by omega
        rw [if_pos gb] at hr
        rw [eg] at hl h2
        refine .inr ⟨?_, hl⟩
        have hrh : rh s (s.R (iabs op) - 1) = true := by
          cases e : rh s (s.R (iabs op) - 1) with
          | true => rfl
          | false => exact absurd ⟨hl, e⟩ h2
        unfold fc2
        rw [hrh, Bool.and_true, Bool.not_eq_true', decide_eq_false_iff_not]
        intro z
        have hlh : lh s (s.R (iabs op) - 1) = true := by
          unfold lh
          have e : s.R (iabs op) - 1 = iabs op := by omega
          rw [e, z]
          simp
        rw [hlh] at hl
        cases hl
      · rw [if_neg gb] at hr
        exact absurd ⟨hl, hr⟩ h2
  · rintro (⟨h1, h2⟩ | ⟨h1, h2⟩)
    · unfold fc1 at h1
      simp only [Bool.and_eq_true, Bool.not_eq_true', decide_eq_false_iff_not] at h1
      refine ⟨s.L (iabs op), a0, by omega, gapT_lost.mpr ⟨?_, ?_⟩, fun z => ?_⟩
      · rw [lh_aft, if_pos rfl]
        exact hX h1.1
      · rw [rh_aft, if_neg (by omega)]
        exact h2
      · have := (gapT_lost.mp z).1
        rw [h1.2] at this
        cases this
    · unfold fc2 at h1
      simp only [Bool.and_eq_true, Bool.not_eq_true', decide_eq_false_iff_not] at h1
      refine ⟨s.R (iabs op) - 1, by omega, by omega, gapT_lost.mpr ⟨?_, ?_⟩, fun z => ?_⟩
      · rw [lh_aft, if_neg (by omega)]
        exact h2
      · rw [rh_aft, if_pos (by omega)]
        exact hY h1.1
      · have := (gapT_lost.mp z).2
        rw [h1.2] at this
        cases this
theorem sole_new (hW : Wf s) (hL : Leg s op) {g : Int} (hg : g ∈ forL s (iabs op)) :
    (decide (gapT (aft s op) g = "lost") || !(aft s op).O (g + bI (decide (gapT (aft s op) g = "right")))) = soleV s (holdV s (iabs op) g) := by
  have r := rng hW hL
  obtain ⟨l1, l2, a0, a1, b0, b1⟩ := id r
  have hO : ∀ x, x ≠ iabs op → (aft s op).O x = s.O x := fun x hx => by
    show (if x = iabs op then decide (op < 0) else s.O x) = _
    rw [if_neg hx]
  rcases forL_ok hW hL hg with ⟨rfl, h⟩ | ⟨rfl, h, hne⟩
  · have hl : lh (aft s op) (s.L (iabs op)) = false := by
      rw [lh_aft, if_pos rfl, decide_eq_false_iff_not]
      split <;> omega
    have hr : rh (aft s op) (s.L (iabs op)) = rh s (s.L (iabs op)) := by rw [rh_aft, if_neg (by omega)]
    unfold holdV
    rw [if_pos rfl]
    cases e : rh s (s.L (iabs op)) with
    | true =>
      have h1 : gapT (aft s op) (s.L (iabs op)) = "right" := gapT_right.mpr ⟨hl, by rw [hr, e]⟩
      have h2 : ¬ gapT (aft s op) (s.L (iabs op)) = "lost" := fun z => by
        have := (gapT_lost.mp z).2
        rw [hr, e] at this
        cases this
      rw [decide_eq_false h2, decide_eq_true h1, Bool.false_or, if_pos rfl]
      show (!(aft s op).O (s.L (iabs op) + 1)) = !s.O (s.L (iabs op) + 1)
      rw [hO _ (by omega)]
    | false =>
      have h1 : gapT (aft s op) (s.L (iabs op)) = "lost" := gapT_lost.mpr ⟨hl, by rw [hr, e]⟩
      rw [decide_eq_true h1, Bool.true_or, if_neg (by simp)]
      rfl
  · have hr : rh (aft s op) (s.R (iabs op) - 1) = false := by
      rw [rh_aft, if_pos (by omega), decide_eq_false_iff_not]
      split <;> omega
    have hl : lh (aft s op) (s.R (iabs op) - 1) = lh s (s.R (iabs op) - 1) := by rw [lh_aft, if_neg hne]
    unfold holdV
    rw [if_neg hne]
    have h3 : ¬ gapT (aft s op) (s.R (iabs op) - 1) = "right" := fun z => by
      have := (gapT_right.mp z).2
      rw [hr] at this
      cases this
    cases e : lh s (s.R (iabs op) - 1) with
    | true =>
      have h2 : ¬ gapT (aft s op) (s.R (iabs op) - 1) = "lost" := fun z => by
        have := (gapT_lost.mp z).1
        rw [hl, e] at this
        cases this
      rw [decide_eq_false h2, decide_eq_false h3, Bool.false_or, if_pos rfl]
      show (!(aft s op).O (s.R (iabs op) - 1 + 0)) = !s.O (s.R (iabs op) - 1)
      rw [Int.add_zero, hO _ (by omega)]
    | false =>
      have h1 : gapT (aft s op) (s.R (iabs op) - 1) = "lost" := gapT_lost.mpr ⟨by rw [hl, e], hr⟩
      rw [decide_eq_true h1, Bool.true_or, if_neg (by simp)]
      rfl
end
/-! debts -/
theorem mem_range_filter {n : Nat} {p : Nat → Bool} {k : Nat} : k ∈ (List.range n).filter p ↔ k < n ∧ p k = true := by simp [List.mem_filter]
theorem rep_iff {s : St} (hW : Wf s) : rep s = true ↔ ∀ g, 0 ≤ g → g < s.n + 1 → gapT s g ≠ "lost" := by
  unfold rep lostN
  rw [decide_eq_true_eq]
  constructor
  · intro h g g0 g1 z
    have h : ((List.range (s.n + 1).toNat).filter fun k => decide (gapT s (k : Nat) = "lost")) = [] := List.eq_nil_of_length_eq_zero (by omega)
    have m : g.toNat ∈ (List.range (s.n + 1).toNat).filter fun k => decide (gapT s (k : Nat) = "lost") := mem_range_filter.mpr ⟨by omega, by
      have e : ((g.toNat : Nat) : Int) = g := by omega
      rw [e]
      exact decide_eq_true z⟩
    rw [h] at m
    cases m
  · intro h
    have e : ((List.range (s.n + 1).toNat).filter fun k => decide (gapT s (k : Nat) = "lost")) = [] := List.filter_eq_nil_iff.mpr fun k hk => by
      have := List.mem_range.mp hk
      rw [decide_eq_true_eq]
      exact h k (by omega) (by omega)
    rw [e]
    rfl
theorem sum_share {s : St} : ∀ xs : List Int, (xs.map (share s)).sum = 2 * (xs.length : Int) - ((xs.filter s.O).length : Int)
  | [] => rfl
  | x :: xs => by
    rw [List.map_cons, List.sum_cons, sum_share xs, List.filter_cons]
    unfold share
    cases e : s.O x with
    | true => rw [if_pos rfl, if_pos rfl, List.length_cons, List.length_cons]; omega
    | false => rw [if_neg (by simp), if_neg (by simp), List.length_cons]; omega
end Lay
end
section
set_option Elab.async false
set_option linter.all false
set_option autoImplicit false
set_option maxRecDepth 100000
set_option maxHeartbeats 4000000
namespace Lay
open PySem PySem.Spec PyProof.Rows L2


def ph_refusing (ds : List DV) (d : DV) : Prop := ∃ s op k, Wf s ∧ Leg s op ∧ 0 ≤ k ∧ k ≤ 3 ∧ ds = [s.D, .i op, .i k] ∧ d = .s (refT s op k)
def ph_ldues (ds : List DV) (d : DV) : Prop := ∃ s, Wf s ∧ ds = [s.D] ∧ d = .l ((dueL s).map DV.i)
def ph_ldebt (ds : List DV) (d : DV) : Prop := ∃ s, Wf s ∧ ds = [s.D] ∧ d = debtD s
def outL (s : St) : List Int := filI 1 (s.n + 1) s.O
def dumpP (s : St) : List Str := [Str.join " " ((tab (s.n + 1) s.R).map strI), Str.join " " ((tab (s.n + 1) fun v => s.L (v + 1)).map strI), if (outL s).isEmpty then "none" else Str.join " " ((outL s).map strI)]
def dumpT (s : St) : Str := Str.join " | " (dumpP s)
def ph_ldump (ds : List DV) (d : DV) : Prop := ∃ s, Wf s ∧ ds = [s.D] ∧ d = .s (dumpT s)
def errW (x : Str) : List Str := if x = "BadOperation" ∨ x = "Illegal" ∨ x = "Refused" then ["ValueError", "LogError", x] else ["ValueError", x]
def errD (x : Str) (fs : List DV) : DV := .t [.s "error", .l ((errW x).map DV.s), .l fs]
def ph_error (ds : List DV) (d : DV) : Prop := ∃ x fs, ds = [.s x, .l fs] ∧ d = errD x fs
theorem isEmpty_false_iff {xs : List Int} : (!xs.isEmpty) = true ↔ ∃ x, x ∈ xs := by
  cases xs with
  | nil => simp
  | cons x xs => exact ⟨fun _ => ⟨x, List.mem_cons_self⟩, fun _ => rfl⟩
theorem strI_len : ∀ n : Fin 64, (strI (n.val : Int)).length ≤ 2 ∧ 1 ≤ (strI (n.val : Int)).length := by decide +kernel
theorem strI_le {v : Int} (h0 : 0 ≤ v) (h1 : v < 64) : (strI v).length ≤ 2 ∧ 1 ≤ (strI v).length := by
  have := strI_len ⟨v.toNat, by omega⟩
  have e : ((v.toNat : Nat) : Int) = v := by omega
  rwa [e] at this
theorem log2_le {v : Int} (h0 : 0 ≤ v) (h1 : v < 64) : v.natAbs.log2 < 1920 := by
  by_cases h : v.natAbs = 0
  · rw [h]; decide
  · exact Nat.lt_of_lt_of_le ((Nat.log2_lt h).mpr (show v.natAbs < 2 ^ 6 by omega)) (by omega)
theorem lens_le : ∀ xs : List Int, (∀ x ∈ xs, 0 ≤ x ∧ x < 64) → ((xs.map strI).map (·.length)).sum ≤ 2 * xs.length
  | [], _ => Nat.le_refl _
  | x :: xs, h => by
    have h1 := (strI_le (h x List.mem_cons_self).1 (h x List.mem_cons_self).2).1
    have h2 := lens_le xs fun y hy => h y (List.mem_cons_of_mem _ hy)
    rw [List.map_cons, List.map_cons, List.sum_cons, List.length_cons]
    omega
theorem join_bound {xs : List Int} (h : ∀ x ∈ xs, 0 ≤ x ∧ x < 64) (hl : xs.length ≤ 100) {z : Str} (hz : z.length ≤ 3) : ((xs.map strI).map (·.length)).sum + (xs.map strI).length * z.length ≤ 16777216 := by
  have := lens_le xs h
  rw [List.length_map]
  have : xs.length * z.length ≤ 100 * 3 := Nat.mul_le_mul hl hz
  omega
theorem tab_mem {α : Type} {m : Int} {f : Int → α} {x : α} (h : x ∈ tab m f) : ∃ v, 0 ≤ v ∧ v < m ∧ f v = x := by
  unfold tab at h
  obtain ⟨k, hk, rfl⟩ := List.mem_map.mp h
  have := List.mem_range.mp hk
  exact ⟨k, by omega, by omega, rfl⟩
theorem cut1 {m : Int} {f : Int → DV} (h : 0 ≤ m) : cutD (tab (m + 1) f) (some 1) none = tab m fun v => f (v + 1) := by
  refine List.ext_getElem? fun i => ?_
  have e1 : HT.sIx (tab (m + 1) f).length 0 (some 1) = 1 := by
    rw [tab_length]
    unfold HT.sIx
    simp
    omega
  have e2 : HT.sIx (tab (m + 1) f).length (tab (m + 1) f).length none = (tab (m + 1) f).length := by
    unfold HT.sIx
    rfl
  unfold cutD
  rw [e1, e2, tab_length, List.getElem?_take, List.getElem?_drop]
  by_cases hi : i < m.toNat
  · rw [if_pos (by omega), tab_get (by omega), tab_get hi]
    have e : ((1 + i : Nat) : Int) = (i : Int) + 1 := by omega
    rw [e]
  · rw [List.getElem?_eq_none (by rw [tab_length]; omega : (tab m fun v => f (v + 1)).length ≤ i)]
    split
    · rw [List.getElem?_eq_none (by rw [tab_length]; omega)]
    · rfl
theorem join_empty {xs : List Int} (h : ∀ x ∈ xs, 0 ≤ x ∧ x < 64) : decide (Str.join " " (xs.map strI) = ("" : Str)) = xs.isEmpty := by
  cases xs with
  | nil => rfl
  | cons x xs =>
    have hx := (strI_le (h x List.mem_cons_self).1 (h x List.mem_cons_self).2).2
    have hl : 1 ≤ (Str.join " " ((x :: xs).map strI)).length := by
      cases xs with
      | nil => exact hx
      | cons y ys =>
        show 1 ≤ (strI x ++ " " ++ Str.join " " ((y :: ys).map strI) : Str).length
        have e : ∀ a b : Str, (a ++ b).length = a.length + b.length := fun a b => by
          show (a.cps ++ b.cps).size = _
          rw [Array.size_append]
          rfl
        rw [e, e]
        omega
    rw [decide_eq_false_iff_not.mpr fun z => by rw [z] at hl; exact absurd hl (by decide)]
    rfl
theorem str_assoc (a b c : Str) : a ++ b ++ c = a ++ (b ++ c) := by
  show (⟨a.cps ++ b.cps ++ c.cps⟩ : Str) = ⟨a.cps ++ (b.cps ++ c.cps)⟩
  rw [Array.append_assoc]
theorem str_len (a b : Str) : (a ++ b).length = a.length + b.length := by
  show (a.cps ++ b.cps).size = _
  rw [Array.size_append]
  rfl
theorem join_len (z : Str) : ∀ ys : List Str, (Str.join z ys).length ≤ (ys.map (·.length)).sum + ys.length * z.length
  | [] => Nat.zero_le _
  | [x] => by
    show x.length ≤ _
    simp
  | x :: y :: ys => by
    have h := join_len z (y :: ys)
    show (x ++ z ++ Str.join z (y :: ys) : Str).length ≤ _
    rw [str_len, str_len]
    simp only [List.map_cons, List.sum_cons, List.length_cons] at h ⊢
    have : (ys.length + 1 + 1) * z.length = (ys.length + 1) * z.length + z.length := by rw [Nat.succ_mul]
    omega
section
variable {w : World} {K : PySem.W.Frag} {mg : Str → Option Value} {base : Heap}

theorem ok_ulaw_refusing (T : TX K mg) : FnR PW w K mg base CX0 3 (gA "_law_refusing" K) (PD K (Pu ph_refusing)) := by
  obtain ⟨fd, F⟩ := f_ulaw_refusing T
  refine fnD_of F n_ulaw_refusing (F.bindsN fun _ _ _ _ _ _ us hl => match us, hl with | [_, _, _], _ => rfl) (fun ds F P ⟨d, ⟨_, _, _, _, _, _, _, e, _⟩, _⟩ => by rw [e]; rfl) fun cdv A outer s H E hr => ⟨_, PSs.nox
    (pss_cons (ps_if (pt_cmpR op_eq (pv 2) pe_int (nomark _)) (pss_one (ps_ret pe_str)) pss_nil)
      (pss_cons (ps_set (i := 3) n_ulaw_refusing.nd rfl (by first | exact .inl rfl | exact .inr rfl) (pe_callR (ok_ulaw_gaps T) (hr.mono (by decide)) rfl (g_ulaw_gaps T) (k_ulaw_gaps T) at0 (pa_cons (pv 0) pa_nil)))
      (pss_cons (ps_set (i := 4) n_ulaw_refusing.nd rfl (by first | exact .inl rfl | exact .inr rfl) (pe_callR (ok_ulaw_after T) (hr.mono (by decide)) rfl (g_ulaw_after T) (k_ulaw_after T) at0 (pa_cons (pv 0) (pa_cons (pv 1) pa_nil))))
      (pss_cons (ps_set (i := 5) n_ulaw_refusing.nd rfl (by first | exact .inl rfl | exact .inr rfl) (pe_callR (ok_ulaw_gaps T) (hr.mono (by decide)) rfl (g_ulaw_gaps T) (k_ulaw_gaps T) at0 (pa_cons (pv 4) pa_nil)))
      (pss_cons (ps_if (pt_cmpR (op_neD hr.units) (pe_lc (own := [("_law_gap_here", 6)]) (g := gName 6) rfl n_ulaw_refusing.nd (pi_range1 (by rfl) (b_range T) (pa_cons (pe_callB call_len_seq (by rfl) (b_len T) boot_len' (pa_cons (pv 5) pa_nil)) pa_nil)) (blkOk_by (own := [("_law_gap_here", 6)]) (N := ["_law_state", "_law_operation_here", "_law_level", "_law_before", "_law_changed", "_law_after_here", "_law_gap_here", "_law_holder"]) (sc := defScope st_ulaw_refusing) (by decide +kernel)) (fun _ _ _ _ _ => pg_name (i := 6) n_ulaw_refusing.nd rfl (Or.inl rfl)) (fun _ _ _ _ _ => pts_one (PW.pt (pw_and (pt_cmpR op_eq (pe_ix (ixl K) (pv 5) (pv 6) (fun _ _ => rfl)) pe_str (nomark _)) (pw_and1 (pt_cmpR op_ne (pe_ix (ixl K) (pv 3) (pv 6) (fun _ _ => rfl)) pe_str (nomark _)))))) (fun _ _ _ _ _ => (pv 6))) (pe_lst pa_nil) (nomark _)) (pss_one (ps_ret pe_str)) pss_nil)
      (pss_cons (ps_for PassesOwn.never rfl (pi_list (pe_callR (ok_ulaw_foreign T) (hr.mono (by decide)) rfl (g_ulaw_foreign T) (k_ulaw_foreign T) at0 (pa_cons (pv 0) (pa_cons (pv 1) pa_nil)))) (pg_name (i := 6) n_ulaw_refusing.nd rfl (by first | exact .inl rfl | exact .inr rfl)) (pss_cons (ps_set (i := 7) n_ulaw_refusing.nd rfl (by first | exact .inl rfl | exact .inr rfl) (pe_op op_add (pv 6) (pe_callTy call_int1 (by rfl) (b_int T) boot_int' (pa_cons (pe_cmpR op_eq (pe_ix ix_list (pv 5) (pv 6) (fun _ _ => rfl)) pe_str (nomark _)) pa_nil))))
      (pss_one (ps_if (PW.pt (pw_and (pt_cmpR op_gt (pv 2) pe_int (nomark _)) (pw_and1 (PW.pt (pw_or (pt_cmpR op_eq (pe_ix ix_list (pv 5) (pv 6) (fun _ _ => rfl)) pe_str (nomark _)) (pw_or1 (pt_not (pt_val (pe_ix ix_list (pe_ix ix_list (pv 4) pe_int (fun _ _ => rfl)) (pv 7) (fun _ _ => rfl)))))))))) (pss_one (ps_ret pe_str)) pss_nil))))
      (pss_cons (ps_if (PW.pt (pw_and (pt_cmpR op_gt (pv 2) pe_int (nomark _)) (pw_and1 (pt_not (pt_val (pe_callR (ok_ulaw_stands T) (hr.mono (by decide)) rfl (g_ulaw_stands T) (k_ulaw_stands T) at0 (pa_cons (pv 0) (pa_cons (pv 1) pa_nil)))))))) (pss_one (ps_ret pe_str)) pss_nil)
      (pss_one (ps_ret pe_str))))))))), fun ds F P h gF => ?_⟩
  obtain ⟨d, ⟨s, op, k, hW, hL, k0, k3, rfl, rfl⟩, hP⟩ := h
  have n0 := hW.n0
  have n1 := hW.n1
  have l1 := hL.lo
  have l2 := hL.hi
  have hA := wf_aft hW hL
  refine .seq (.ifB (.test (.eqI (.var rfl) .int)) (fun e => .ret (.evf .str ?_)) (fun e => .nil ?_))
  · have e := of_decide_eq_true e
    subst e
    have e0 : refT s op 0 = "" := by unfold refT; simp
    rw [e0] at hP
    exact hP
  have hk : 1 ≤ k := by
    have := of_decide_eq_false e
    omega
  refine .seq (.asg (.evf (.call (.cons (.var rfl) .nil) ⟨s, hW, rfl, rfl⟩) ?_))
  refine .seq (.asg (.evf (.call (.cons (.var rfl) (.cons (.var rfl) .nil)) ⟨s, op, hW, l1, l2, rfl, rfl⟩) ?_))
  refine .seq (.asg (.evf (.call (.cons (.var rfl) .nil) ⟨aft s op, hA, rfl, rfl⟩) ?_))
  have an : (aft s op).n = s.n := rfl
  refine .seq (.ifB (.test (.neNil (xs := filI 0 (s.n + 1) fun g => decide (gapT (aft s op) g = "lost") && !decide (gapT s g = "lost"))
    (by rw [← fil_i]; exact .lcR1 (.lenTab (α := Int) (.var rfl) (by omega)) (fun g g0 g1 => .and (.test (.eqS (.ixL (.var rfl) (.var rfl) (atI_tab (by omega) (by omega))) .str)) (fun _ => .test (.neS (.ixL (.var rfl) (.var rfl) (atI_tab (by omega) (by omega))) .str))) (fun g _ _ _ => .var rfl) (by omega) (by omega))
    (.lst .nil (by rw [sizeLine_eq]; show 0 ≤ 16777216; omega)))) (fun e => .ret (.evf .str ?_)) (fun e => .nil ?_))
  · obtain ⟨g, hg⟩ := isEmpty_false_iff.mp e
    obtain ⟨g0, g1, hg⟩ := mem_filI.mp hg
    simp only [Bool.and_eq_true, Bool.not_eq_true', decide_eq_true_eq, decide_eq_false_iff_not] at hg
    have hl := (gap_new hW hL).mp ⟨g, g0, g1, hg.1, hg.2⟩
    unfold refT at hP
    rw [if_pos ⟨hk, hl⟩] at hP
    exact hP
  have hl : loses s (iabs op) = false := by
    cases q : loses s (iabs op) with
    | false => rfl
    | true =>
      obtain ⟨g, g0, g1, h1, h2⟩ := (gap_new hW hL).mpr q
      have : (!(filI 0 (s.n + 1) fun g => decide (gapT (aft s op) g = "lost") && !decide (gapT s g = "lost")).isEmpty) = true := isEmpty_false_iff.mpr ⟨g, mem_filI.mpr ⟨g0, g1, by simp [h1, h2]⟩⟩
      rw [this] at e
      cases e
  unfold refT at hP
  rw [if_neg (by rw [hl]; simp)] at hP
  refine .seq (RnF.forL (ds := (forL s (iabs op)).map DV.i) (fun j ss' F' => (∃ o1 o2, ss' = [some s.D, some (.i op), some (.i k), some (gapsD s), some (aft s op).D, some (gapsD (aft s op)), o1, o2]) ∧ F' = F ∧ (2 ≤ k → ((forL s (iabs op)).take j).any (fun g => soleV s (holdV s (iabs op) g)) = false))
    (.evf (.call (.cons (.var rfl) (.cons (.var rfl) .nil)) ⟨s, op, hW, hL, rfl, rfl⟩) ⟨rfl, ⟨none, none, rfl⟩, rfl, fun _ => rfl⟩) (fun j d ss' F' hj ⟨⟨o1, o2, e1⟩, e2, e3⟩ => ?_) fun ss' F' ⟨⟨o1, o2, e1⟩, e2, e3⟩ => ?_)
  · subst e1 e2
    rw [List.getElem?_map] at hj
    cases hg : (forL s (iabs op))[j]? with
    | none => rw [hg] at hj; cases hj
    | some g =>
      rw [hg] at hj
      cases hj
      have hm := List.mem_of_getElem? hg
      have hr := forL_range hW hL hm
      have hs := sole_new hW hL hm
      have tk : (forL s (iabs op)).take (j + 1) = (forL s (iabs op)).take j ++ [g] := by rw [List.take_succ, hg]; rfl
      have hb : 0 ≤ bI (decide (gapT (aft s op) g = "right")) ∧ bI (decide (gapT (aft s op) g = "right")) ≤ 1 := by unfold bI; split <;> omega
      refine .seq (.asg (.evf (.add (.var rfl) (.intB (.eqS (.ixL (.var rfl) (.var rfl) (atI_tab (by omega) (by omega))) .str))) ?_))
      refine .ifB (c := decide (1 < k) && soleV s (holdV s (iabs op) g)) (.and (.test (.gt (.var rfl) .int)) (fun _ => by rw [← hs]; exact .or (.test (.eqS (.ixL (.var rfl) (.var rfl) (atI_tab (by omega) (by omega))) .str)) (fun _ => .not (.val (.ixL (.ixL (.var rfl) .int rfl) (.var rfl) (atI_tab (by omega) (by omega))))))) (fun e => .ret (.evf .str ?_)) (fun e => .nil ⟨⟨_, _, rfl⟩, rfl, fun h2 => ?_⟩)
      · simp only [Bool.and_eq_true, decide_eq_true_eq] at e
        have hso : soles s (iabs op) = true := List.any_eq_true.mpr ⟨g, hm, e.2⟩
        rw [if_pos ⟨by omega, hso⟩] at hP
        exact hP
      · rw [decide_eq_true (show (1 : Int) < k by omega), Bool.true_and] at e
        rw [tk, List.any_append, e3 h2]
        simp [e]
  · subst e1 e2
    rw [List.length_map, List.take_length] at e3
    have hso : ¬ (2 ≤ k ∧ soles s (iabs op) = true) := fun ⟨h2, z⟩ => by
      have := e3 h2
      unfold soles at z
      rw [this] at z
      cases z
    rw [if_neg hso] at hP
    refine .seq (.ifB (.and (.test (.gt (.var rfl) .int)) (fun _ => .not (.val (.call (.cons (.var rfl) (.cons (.var rfl) .nil)) ⟨s, op, hW, hL, rfl, rfl⟩)))) (fun e => .ret (.evf .str ?_)) (fun e => .nil (.ret (.evf .str ?_))))
    · simp only [Bool.and_eq_true, Bool.not_eq_true', decide_eq_true_eq] at e
      rw [if_pos ⟨by omega, e.2⟩] at hP
      exact hP
    · have : ¬ (3 ≤ k ∧ loc s op = false) := fun ⟨h1, h2⟩ => by
        rw [decide_eq_true (show (2 : Int) < k by omega), h2] at e
        cases e
      rw [if_neg this] at hP
      exact hP

theorem inD_ints {v : Int} : ∀ xs : List Int, inD (.i v) (xs.map DV.i) = xs.any fun x => x == v
  | [] => rfl
  | x :: xs => by
    show (eqF (.i x) (.i v) || inD (.i v) (xs.map DV.i)) = _
    rw [inD_ints xs]
    rfl
theorem flat_ints : ∀ xs : List Int, (xs.map DV.i).all flatD = true
  | [] => rfl
  | x :: xs => flat_ints xs
theorem flat_strs : ∀ xs : List Str, (xs.map DV.s).all flatD = true
  | [] => rfl
  | x :: xs => flat_strs xs
theorem inD_strs {v : Str} : ∀ xs : List Str, inD (.s v) (xs.map DV.s) = xs.any fun x => x == v
  | [] => rfl
  | x :: xs => by
    show (eqF (.s x) (.s v) || inD (.s v) (xs.map DV.s)) = _
    rw [inD_strs xs]
    rfl

theorem ok_ulaw_due_nodes (T : TX K mg) : FnR PW w K mg base CX0 3 (gA "_law_due_nodes" K) (PD K (Pu ph_ldues)) := by
  obtain ⟨fd, F⟩ := f_ulaw_due_nodes T
  refine fnD_of F n_ulaw_due_nodes (F.bindsN fun _ _ _ _ _ _ us hl => match us, hl with | [_], _ => rfl) (fun ds F P ⟨d, ⟨_, _, e, _⟩, _⟩ => by rw [e]; rfl) fun cdv A outer s H E hr => ⟨_, PSs.nox
    (pss_cons (ps_set (i := 1) n_ulaw_due_nodes.nd rfl (by first | exact .inl rfl | exact .inr rfl) (pe_callR (ok_ulaw_gaps T) (hr.mono (by decide)) rfl (g_ulaw_gaps T) (k_ulaw_gaps T) at0 (pa_cons (pv 0) pa_nil)))
      (pss_cons (ps_set (i := 2) n_ulaw_due_nodes.nd rfl (by first | exact .inl rfl | exact .inr rfl) (pe_lc (own := [("_law_gap_here", 3)]) (g := gName 3) rfl n_ulaw_due_nodes.nd (pi_range1 (by rfl) (b_range T) (pa_cons (pe_callB call_len_seq (by rfl) (b_len T) boot_len' (pa_cons (pv 1) pa_nil)) pa_nil)) (blkOk_by (own := [("_law_gap_here", 3)]) (N := ["_law_state", "_law_gaps_here", "_law_sole", "_law_gap_here", "_law_node"]) (sc := defScope st_ulaw_due_nodes) (by decide +kernel)) (fun _ _ _ _ _ => pg_name (i := 3) n_ulaw_due_nodes.nd rfl (Or.inl rfl)) (fun _ _ _ _ _ => pts_one (pt_cmpR op_eq (pe_ix (ixl K) (pv 1) (pv 3) (fun _ _ => rfl)) pe_str (nomark _))) (fun _ _ _ _ _ => (pv 3))))
      (pss_cons (ps_set (i := 2) n_ulaw_due_nodes.nd rfl (by first | exact .inl rfl | exact .inr rfl) (pe_op op_cat (pv 2) (pe_lc (own := [("_law_gap_here", 3)]) (g := gName 3) rfl n_ulaw_due_nodes.nd (pi_range1 (by rfl) (b_range T) (pa_cons (pe_callB call_len_seq (by rfl) (b_len T) boot_len' (pa_cons (pv 1) pa_nil)) pa_nil)) (blkOk_by (own := [("_law_gap_here", 3)]) (N := ["_law_state", "_law_gaps_here", "_law_sole", "_law_gap_here", "_law_node"]) (sc := defScope st_ulaw_due_nodes) (by decide +kernel)) (fun _ _ _ _ _ => pg_name (i := 3) n_ulaw_due_nodes.nd rfl (Or.inl rfl)) (fun _ _ _ _ _ => pts_one (pt_cmpR op_eq (pe_ix (ixl K) (pv 1) (pv 3) (fun _ _ => rfl)) pe_str (nomark _))) (fun _ _ _ _ _ => (pe_op op_add (pv 3) pe_int)))))
      (pss_one (ps_ret (pe_lc (own := [("_law_node", 4)]) (g := gName 4) rfl n_ulaw_due_nodes.nd (pi_range2 (by rfl) (b_range T) (pa_cons pe_int (pa_cons (pe_callB call_len_seq (by rfl) (b_len T) boot_len' (pa_cons (pv 1) pa_nil)) pa_nil))) (blkOk_by (own := [("_law_node", 4)]) (N := ["_law_state", "_law_gaps_here", "_law_sole", "_law_gap_here", "_law_node"]) (sc := defScope st_ulaw_due_nodes) (by decide +kernel)) (fun _ _ _ _ _ => pg_name (i := 4) n_ulaw_due_nodes.nd rfl (Or.inl rfl)) (fun _ _ _ _ _ => pts_one (PW.pt (pw_or (pt_val (pe_ix (ixl K) (pe_ix (ixl K) (pv 0) pe_int (fun _ _ => rfl)) (pv 4) (fun _ _ => rfl))) (pw_or1 (pt_cmpR (inr' K) (pv 4) (pv 2) (by with_unfolding_all rfl)))))) (fun _ _ _ _ _ => (pv 4)))))))), fun ds F P h gF => ?_⟩
  obtain ⟨d, ⟨s, hW, rfl, rfl⟩, hP⟩ := h
  have n0 := hW.n0
  have n1 := hW.n1
  refine .seq (.asg (.evf (.call (.cons (.var rfl) .nil) ⟨s, hW, rfl, rfl⟩) ?_))
  refine .seq (.asg (.evf (d := .l ((filI 0 (s.n + 1) fun g => decide (gapT s g = "left")).map DV.i)) (by rw [← fil_i]; exact .lcR1 (.lenTab (α := Int) (.var rfl) (by omega)) (fun g g0 g1 => .test (.eqS (.ixL (.var rfl) (.var rfl) (atI_tab (by omega) (by omega))) .str)) (fun g _ _ _ => .var rfl) (by omega) (by omega)) ?_))
  have hlen : ∀ p : Int → Bool, (filI 0 (s.n + 1) p).length ≤ 61 := fun p => by
    have := filI_len (lo := 0) (hi := s.n + 1) (p := p)
    omega
  refine .seq (.asg (.evf (d := .l (((filI 0 (s.n + 1) fun g => decide (gapT s g = "left")) ++ (filI 0 (s.n + 1) fun g => decide (gapT s g = "right")).map (· + 1)).map DV.i)) (by
    rw [List.map_append, List.map_map]
    refine EvD.cat (.var rfl) (es := (filI 0 (s.n + 1) fun g => decide (gapT s g = "right")).map fun g => .i (g + 1)) (by rw [← fil_i (lo := 0) (hi := s.n + 1) (p := fun g => decide (gapT s g = "right")) (f := fun g => DV.i (g + 1))]; exact .lcR1 (.lenTab (α := Int) (.var rfl) (by omega)) (fun g g0 g1 => .test (.eqS (.ixL (.var rfl) (.var rfl) (atI_tab (by omega) (by omega))) .str)) (fun g _ _ _ => .add (.var rfl) .int) (by omega) (by omega)) (by
      have := hlen fun g => decide (gapT s g = "left")
      have := hlen fun g => decide (gapT s g = "right")
      rw [List.length_map, List.length_map, sizeLine_eq]
      omega)) ?_))
  refine .ret (.evf (d := .l ((dueL s).map DV.i)) (by
    unfold dueL
    rw [← fil_i (lo := 1) (hi := s.n + 1) (p := due s) (f := fun k => DV.i k)]
    refine .lcR2 .int (.lenTab (α := Int) (.var rfl) (by omega)) (fun v v0 v1 => ?_) (fun g _ _ _ => .var rfl) (by omega) (by omega) (by omega) (by omega)
    have hc : due s v = (s.O v || inD (.i v) (((filI 0 (s.n + 1) fun g => decide (gapT s g = "left")) ++ (filI 0 (s.n + 1) fun g => decide (gapT s g = "right")).map (· + 1)).map DV.i)) := by
      rw [inD_ints, Bool.eq_iff_iff]
      unfold due
      simp only [Bool.or_eq_true, List.any_eq_true, List.mem_append, mem_filI, List.mem_map, beq_iff_eq, decide_eq_true_eq]
      cases q : s.O v with
      | true => simp
      | false =>
        simp only [Bool.false_eq_true, if_false, false_or, Bool.or_eq_true, decide_eq_true_eq]
        constructor
        · rintro (h | h)
          · exact ⟨v, .inl ⟨by omega, by omega, h⟩, rfl⟩
          · exact ⟨v, .inr ⟨v - 1, ⟨by omega, by omega, h⟩, by omega⟩, rfl⟩
        · rintro ⟨x, ⟨h1, h2, h3⟩ | ⟨y, ⟨h1, h2, h3⟩, h4⟩, rfl⟩
          · exact .inl h3
          · refine .inr ?_
            have e : x - 1 = y := by omega
            rw [e]
            exact h3
    rw [hc]
    exact .or (.val (.ixL (.ixL (.var rfl) .int rfl) (.var rfl) (atI_tab (by omega) (by omega)))) (fun _ => .test (.inL (neg := false) (.var rfl) (.var rfl) rfl (flat_ints _)))) hP)

theorem ok_ulaw_debt (T : TX K mg) : FnR PW w K mg base CX0 4 (gA "_law_debt" K) (PD K (Pu ph_ldebt)) := by
  obtain ⟨fd, F⟩ := f_ulaw_debt T
  refine fnD_of F n_ulaw_debt (F.bindsN fun _ _ _ _ _ _ us hl => match us, hl with | [_], _ => rfl) (fun ds F P ⟨d, ⟨_, _, e, _⟩, _⟩ => by rw [e]; rfl) fun cdv A outer s H E hr => ⟨_, PSs.nox
    (pss_cons (ps_if (pt_cmpR op_in_seq pe_str (pe_callR (ok_ulaw_gaps T) (hr.mono (by decide)) rfl (g_ulaw_gaps T) (k_ulaw_gaps T) at0 (pa_cons (pv 0) pa_nil)) (by with_unfolding_all rfl)) (pss_one (ps_ret pe_non)) pss_nil)
      (pss_cons (ps_set (i := 1) n_ulaw_debt.nd rfl (by first | exact .inl rfl | exact .inr rfl) (pe_callR (ok_ulaw_due_nodes T) (hr.mono (by decide)) rfl (g_ulaw_due_nodes T) (k_ulaw_due_nodes T) at0 (pa_cons (pv 0) pa_nil)))
      (pss_one (ps_ret (pe_op op_sub (pe_op op_mul pe_int (pe_callB call_len_seq (by rfl) (b_len T) boot_len' (pa_cons (pv 1) pa_nil))) (pe_callB call_len_seq (by rfl) (b_len T) boot_len' (pa_cons (pe_lc (own := [("_law_node", 2)]) (g := gName 2) rfl n_ulaw_debt.nd (pi_list (pv 1)) (blkOk_by (own := [("_law_node", 2)]) (N := ["_law_state", "_law_due_here", "_law_node"]) (sc := defScope st_ulaw_debt) (by decide +kernel)) (fun _ _ _ _ _ => pg_name (i := 2) n_ulaw_debt.nd rfl (Or.inl rfl)) (fun _ _ _ _ _ => pts_one (pt_val (pe_ix (ixl K) (pe_ix (ixl K) (pv 0) pe_int (fun _ _ => rfl)) (pv 2) (fun _ _ => rfl)))) (fun _ _ _ _ _ => (pv 2))) pa_nil))))))), fun ds F P h gF => ?_⟩
  obtain ⟨d, ⟨s, hW, rfl, rfl⟩, hP⟩ := h
  have n0 := hW.n0
  have n1 := hW.n1
  have hin : inD (.s "lost") ((tab (s.n + 1) (gapT s)).map DV.s) = !rep s := by
    rw [inD_strs, Bool.eq_iff_iff]
    simp only [List.any_eq_true, beq_iff_eq, Bool.not_eq_true']
    constructor
    · rintro ⟨x, hx, e⟩
      obtain ⟨g, g0, g1, e2⟩ := tab_mem hx
      cases q : rep s with
      | false => rfl
      | true => exact absurd (e2.trans e) ((rep_iff hW).mp q g g0 g1)
    · intro q
      refine Classical.byContradiction fun hno => ?_
      have : rep s = true := (rep_iff hW).mpr fun g g0 g1 z => hno ⟨gapT s g, by
        unfold tab
        exact List.mem_map.mpr ⟨g.toNat, List.mem_range.mpr (by omega), by rw [show ((g.toNat : Nat) : Int) = g by omega]⟩, z⟩
      rw [this] at q
      cases q
  refine .seq (.ifB (c := !rep s) (by
    rw [← hin]
    exact .test (.inL (neg := false) .str (by rw [tab_map]; exact .call (.cons (.var rfl) .nil) ⟨s, hW, rfl, rfl⟩) rfl (flat_strs _))) (fun e => .ret (.evf .non ?_)) (fun e => .nil ?_))
  · have e : rep s = false := by simpa using e
    simpa [debtD, e] using hP
  have e : rep s = true := by simpa using e
  have hl : (dueL s).length ≤ 60 := by
    have := filI_len (lo := 1) (hi := s.n + 1) (p := due s)
    unfold dueL
    omega
  refine .seq (.asg (.evf (.call (.cons (.var rfl) .nil) ⟨s, hW, rfl, rfl⟩) ?_))
  have hmem : ∀ v ∈ dueL s, 1 ≤ v ∧ v < s.n + 1 := fun v hv => ⟨(mem_filI.mp hv).1, (mem_filI.mp hv).2.1⟩
  have e2 : (.i (2 * (((dueL s).map DV.i).length : Int) - (((((dueL s).map DV.i).filter fun d => match d with | .i v => s.O v | _ => false).map fun d => d).length : Int)) : DV) = debtD s := by
    unfold debtD
    rw [if_pos e, sum_share, List.length_map, List.length_map, List.filter_map, List.length_map]
    rfl
  rw [← e2] at hP
  refine .ret (.evf (.sub (.mul (i := 2) .int (.len (.var rfl)) (.inl ⟨by omega, by omega⟩)) (.len (.lcL (p := fun d => match d with | .i v => s.O v | _ => false) (f := fun d => d) (.var rfl) (fun d hd => ?_) (fun d hd _ => .var rfl) (by rw [List.length_map, sizeLine_eq]; omega)))) hP)
  obtain ⟨v, hv, rfl⟩ := List.mem_map.mp hd
  have := hmem v hv
  exact .val (.ixL (.ixL (.var rfl) .int rfl) (.var rfl) (atI_tab (by omega) (by omega)))

end
end Lay
end
section
set_option Elab.async false
set_option linter.all false
set_option autoImplicit false
set_option maxRecDepth 100000
set_option maxHeartbeats 4000000
namespace Lay
open PySem PySem.Spec PyProof.Rows L2


def strD : DV → DV
  | .i v => .s (strI v)
  | _ => .n
def thirdT (s : St) : Str := if (outL s).isEmpty then "none" else Str.join " " ((outL s).map strI)
theorem join3 (z a b c : Str) : Str.join z [a, b, c] = a ++ z ++ (b ++ z ++ c) := rfl
section
variable {w : World} {K : PySem.W.Frag} {mg : Str → Option Value} {base : Heap}

theorem ok_ulaw_dump (T : TX K mg) : FnR PW w K mg base CX0 1 (gA "_law_dump" K) (PD K (Pu ph_ldump)) := by
  obtain ⟨fd, F⟩ := f_ulaw_dump T
  refine fnD_of F n_ulaw_dump (F.bindsN fun _ _ _ _ _ _ us hl => match us, hl with | [_], _ => rfl) (fun ds F P ⟨d, ⟨_, _, e, _⟩, _⟩ => by rw [e]; rfl) fun cdv A outer s H E hr => ⟨_, PSs.nox
    (pss_cons (ps_set (i := 1) n_ulaw_dump.nd rfl (by first | exact .inl rfl | exact .inr rfl) (pe_join pe_str (pe_lc (own := [("_law_link", 4)]) (g := gName 4) rfl n_ulaw_dump.nd (pi_list (pe_ix ix_list (pv 0) pe_int (fun _ _ => rfl))) (blkOk_by (own := [("_law_link", 4)]) (N := ["_law_state", "_law_first", "_law_second", "_law_third", "_law_link", "_law_node"]) (sc := defScope st_ulaw_dump) (by decide +kernel)) (fun _ _ _ _ _ => pg_name (i := 4) n_ulaw_dump.nd rfl (Or.inl rfl)) (fun _ _ _ _ _ => pts_nil) (fun _ _ _ _ _ => (pe_callTy call_str_int (by rfl) (b_str T) boot_str' (pa_cons (pv 4) pa_nil))))))
      (pss_cons (ps_set (i := 2) n_ulaw_dump.nd rfl (by first | exact .inl rfl | exact .inr rfl) (pe_join pe_str (pe_lc (own := [("_law_link", 4)]) (g := gName 4) rfl n_ulaw_dump.nd (pi_list (pe_slice sl_list (pe_ix ix_list (pv 0) pe_int (fun _ _ => rfl)) (po_some pe_int) po_none)) (blkOk_by (own := [("_law_link", 4)]) (N := ["_law_state", "_law_first", "_law_second", "_law_third", "_law_link", "_law_node"]) (sc := defScope st_ulaw_dump) (by decide +kernel)) (fun _ _ _ _ _ => pg_name (i := 4) n_ulaw_dump.nd rfl (Or.inl rfl)) (fun _ _ _ _ _ => pts_nil) (fun _ _ _ _ _ => (pe_callTy call_str_int (by rfl) (b_str T) boot_str' (pa_cons (pv 4) pa_nil))))))
      (pss_cons (ps_set (i := 3) n_ulaw_dump.nd rfl (by first | exact .inl rfl | exact .inr rfl) (pe_join pe_str (pe_lc (own := [("_law_node", 5)]) (g := gName 5) rfl n_ulaw_dump.nd (pi_range2 (by rfl) (b_range T) (pa_cons pe_int (pa_cons (pe_callB call_len_seq (by rfl) (b_len T) boot_len' (pa_cons (pe_ix ix_list (pv 0) pe_int (fun _ _ => rfl)) pa_nil)) pa_nil))) (blkOk_by (own := [("_law_node", 5)]) (N := ["_law_state", "_law_first", "_law_second", "_law_third", "_law_link", "_law_node"]) (sc := defScope st_ulaw_dump) (by decide +kernel)) (fun _ _ _ _ _ => pg_name (i := 5) n_ulaw_dump.nd rfl (Or.inl rfl)) (fun _ _ _ _ _ => pts_one (pt_val (pe_ix (ixl K) (pe_ix (ixl K) (pv 0) pe_int (fun _ _ => rfl)) (pv 5) (fun _ _ => rfl)))) (fun _ _ _ _ _ => (pe_callTy call_str_int (by rfl) (b_str T) boot_str' (pa_cons (pv 5) pa_nil))))))
      (pss_cons (ps_if (pt_cmpR op_eq (pv 3) pe_str (nomark _)) (pss_one (ps_set (i := 3) n_ulaw_dump.nd rfl (by first | exact .inl rfl | exact .inr rfl) pe_str)) pss_nil)
      (pss_one (ps_ret (pe_op op_add_str (pe_op op_add_str (pe_op op_add_str (pe_op op_add_str (pv 1) pe_str) (pv 2)) pe_str) (pv 3)))))))), fun ds F P h gF => ?_⟩
  obtain ⟨d, ⟨s, hW, rfl, rfl⟩, hP⟩ := h
  have n0 := hW.n0
  have n1 := hW.n1
  have hR : ∀ x ∈ tab (s.n + 1) s.R, 0 ≤ x ∧ x < 64 := fun x hx => by
    obtain ⟨v, v0, v1, rfl⟩ := tab_mem hx
    have := hW.r0 v v0 (by omega)
    have := hW.r1 v v0 (by omega)
    omega
  have hLf : ∀ x ∈ tab (s.n + 1) (fun v => s.L (v + 1)), 0 ≤ x ∧ x < 64 := fun x hx => by
    obtain ⟨v, v0, v1, rfl⟩ := tab_mem hx
    have := hW.l0 (v + 1) (by omega) (by omega)
    have := hW.l1 (v + 1) (by omega) (by omega)
    omega
  have hO : ∀ x ∈ outL s, 0 ≤ x ∧ x < 64 := fun x hx => by
    have := mem_filI.mp hx
    omega
  have lR : (tab (s.n + 1) s.R).length ≤ 100 := by rw [tab_length]; omega
  have lL : (tab (s.n + 1) fun v => s.L (v + 1)).length ≤ 100 := by rw [tab_length]; omega
  have lO : (outL s).length ≤ 100 := by
    have := filI_len (lo := 1) (hi := s.n + 1) (p := s.O)
    unfold outL
    omega
  have eR : ((tab (s.n + 1) s.R).map strI).map DV.s = (tab (s.n + 1) fun v => DV.i (s.R v)).map strD := by
    rw [List.map_map, tab_map, tab_map]
    rfl
  have eL : ((tab (s.n + 1) fun v => s.L (v + 1)).map strI).map DV.s = (tab (s.n + 1) fun v => DV.i (s.L (v + 1))).map strD := by
    rw [List.map_map, tab_map, tab_map]
    rfl
  have eO : ((outL s).map strI).map DV.s = fil 1 (s.n + 1) s.O fun v => DV.s (strI v) := by
    rw [List.map_map, fil_i]
    rfl
  have jl : ∀ xs : List Int, (∀ x ∈ xs, 0 ≤ x ∧ x < 64) → xs.length ≤ 100 → (Str.join " " (xs.map strI)).length ≤ 400 := fun xs h1 h2 => by
    have a := join_len " " (xs.map strI)
    have b := lens_le xs h1
    rw [List.length_map] at a
    have e : (" " : Str).length = 1 := by decide
    rw [e] at a
    omega
  refine .seq (.asg (.evf (.join (ys := (tab (s.n + 1) s.R).map strI) .str (by
    rw [eR]
    refine .lcLY (.ixL (.var rfl) .int rfl) (fun d hd => ?_) (by rw [tab_length]; omega)
    obtain ⟨v, v0, v1, rfl⟩ := tab_mem hd
    have z := hR (s.R v) (by
      unfold tab
      exact List.mem_map.mpr ⟨v.toNat, List.mem_range.mpr (by omega), by rw [show ((v.toNat : Nat) : Int) = v by omega]⟩)
    exact .strOf (.var rfl) (log2_le z.1 z.2)) (join_bound hR lR (by decide))) ?_))
  refine .seq (.asg (.evf (.join (ys := (tab (s.n + 1) fun v => s.L (v + 1)).map strI) .str (by
    rw [eL]
    have ec := cut1 (m := s.n + 1) (f := fun v => DV.i (s.L v)) (by omega)
    rw [show s.n + 1 + 1 = s.n + 2 by omega] at ec
    rw [← ec]
    refine .lcLY (.slice (.ixL (.var rfl) .int rfl) (.some .int) .no) (fun d hd => ?_) (by rw [ec, tab_length]; omega)
    rw [ec] at hd
    obtain ⟨v, v0, v1, rfl⟩ := tab_mem hd
    have z := hLf (s.L (v + 1)) (by
      unfold tab
      exact List.mem_map.mpr ⟨v.toNat, List.mem_range.mpr (by omega), by rw [show ((v.toNat : Nat) : Int) = v by omega]⟩)
    exact .strOf (.var rfl) (log2_le z.1 z.2)) (join_bound hLf lL (by decide))) ?_))
  refine .seq (.asg (.evf (.join (ys := (outL s).map strI) .str (by
    rw [eO]
    exact .lcR2 .int (.lenTab (α := Int) (.ixL (.var rfl) .int rfl) (by omega)) (fun v v0 v1 => .val (.ixL (.ixL (.var rfl) .int rfl) (.var rfl) (atI_tab (by omega) (by omega)))) (fun v v0 v1 _ => .strOf (.var rfl) (log2_le (by omega) (by omega))) (by omega) (by omega) (by omega) (by omega)) (join_bound hO lO (by decide))) ?_))
  have fin : ∀ z : Str, z.length ≤ 400 → z = thirdT s →
      ∀ ss, ss[1]? = some (some (DV.s (Str.join " " ((tab (s.n + 1) s.R).map strI)))) → ss[2]? = some (some (DV.s (Str.join " " ((tab (s.n + 1) fun v => s.L (v + 1)).map strI)))) → ss[3]? = some (some (DV.s z)) →
      RnF K (tRet (tOp rAddS (tOp rAddS (tOp rAddS (tOp rAddS (tVar 1) (tC (.str " | "))) (tVar 2)) (tC (.str " | "))) (tVar 3))) ss F (fun _ F' => P .n F') P := fun z hz ez ss h1 h2 h3 => by
    have a1 := jl _ hR lR
    have a2 := jl _ hLf lL
    have e3 : (" | " : Str).length = 3 := by decide
    refine .ret (.evf (.addS (.addS (.addS (.addS (.var h1) .str ?_) (.var h2) ?_) .str ?_) (.var h3) ?_) ?_)
    · rw [sizeLine_eq, e3]; omega
    · rw [sizeLine_eq, str_len, e3]; omega
    · rw [sizeLine_eq, str_len, str_len, e3]; omega
    · rw [sizeLine_eq, str_len, str_len, str_len, e3]; omega
    · have e : dumpT s = Str.join " " ((tab (s.n + 1) s.R).map strI) ++ " | " ++ Str.join " " ((tab (s.n + 1) fun v => s.L (v + 1)).map strI) ++ " | " ++ z := by
        rw [ez]
        show Str.join " | " [_, _, thirdT s] = _
        rw [join3, ← str_assoc, ← str_assoc]
      rw [← e]
      exact hP
  refine .seq (.ifB (c := (outL s).isEmpty) (by
    rw [← join_empty hO]
    exact .test (.eqS (.var rfl) .str)) (fun e => .asg (.evf .str ?_)) (fun e => .nil ?_))
  · exact fin "none" (by decide) (by unfold thirdT; rw [if_pos e]) _ rfl rfl rfl
  · exact fin _ (jl _ hO lO) (by unfold thirdT; rw [if_neg (by rw [e]; simp)]) _ rfl rfl rfl

end
end Lay
end
section
set_option Elab.async false
set_option linter.all false
set_option autoImplicit false
set_option maxRecDepth 100000
set_option maxHeartbeats 4000000
namespace Lay
open PySem PySem.Spec PyProof.Rows L2


section
variable {K : PySem.W.Frag} {te ta tb tl : TE} {ss : List (Option DV)} {d : DV} {b : Bool}
/-- a datum's class -/
def tyD : DV → Option String
  | .b _ => some "bool"
  | .i _ => some "int"
  | .s _ => some "str"
  | .l _ => some "list"
  | .t _ => some "tuple"
  | _ => none
theorem Rep.tyx {G F : Hp} {x : V} {A : String} (r : Rep K G x d) (h : tyD d = some A) : TyX K (joi G F) x (.type A) := by
  cases r with
  | b b => cases h; exact .base (.bl _)
  | i b => cases h; exact .base (.int _)
  | s b => cases h; exact .base (.str _)
  | l h1 h2 h3 => cases h; exact .base (.lst (joi_l h1))
  | t h1 h2 h3 =>
    cases h
    rcases h1 with h1 | ⟨o, its, n, h1, h4, _⟩
    · rcases h1 with h1 | ⟨o, h1⟩
      · exact .base (.tup (joi_l h1))
      · exact .fTuple (joi_l h1)
    · exact .kTuple h1 h4
  | _ => cases h
theorem EvD.isi {A T : String} (h : EvD K te ss d) (hd : tyD d = some A) (hk : L2.kitB A T = some b) : EvD K (tCB (rIsi K) (tCons te (tCons (tC (.ty T)) tNil))) ss (.b b) := .mk fun σ G F o Q q => h.at o fun x G1 g1 rx =>
  ⟨x, .ty T, .type A, .type T, b, rfl, .ty T, rx.tyx hd, kit_ty hk, q _ G1 g1 (.b b)⟩
end
mutual
/-- how deep, of data without objects -/
def dep : DV → Nat
  | .l ds => depL ds + 1
  | .t ds => depL ds + 1
  | _ => 0
def depL : List DV → Nat
  | [] => 0
  | d :: ds => max (dep d) (depL ds)
end
mutual
def data : DV → Bool
  | .l ds => dataL ds
  | .t ds => dataL ds
  | .n => true
  | .b _ => true
  | .i _ => true
  | .s _ => true
  | _ => false
def dataL : List DV → Bool
  | [] => true
  | d :: ds => data d && dataL ds
end
theorem dep_get : ∀ {ds : List DV} {k : Nat} {d : DV}, ds[k]? = some d → dep d ≤ depL ds
  | [], _, _, h => by simp at h
  | e :: ds, 0, d, h => by
    have h : e = d := by simpa using h
    subst h
    exact Nat.le_max_left _ _
  | e :: ds, k + 1, d, h => Nat.le_trans (dep_get (ds := ds) (k := k) (by simpa using h)) (Nat.le_max_right _ _)
theorem data_get : ∀ {ds : List DV} {k : Nat} {d : DV}, dataL ds = true → ds[k]? = some d → data d = true
  | [], _, _, _, h => by simp at h
  | e :: ds, 0, d, h0, h => by
    have h : e = d := by simpa using h
    subst h
    exact (Bool.and_eq_true_iff.mp h0).1
  | e :: ds, k + 1, d, h0, h => data_get (ds := ds) (k := k) (Bool.and_eq_true_iff.mp h0).2 (by simpa using h)
def ph_exact (m : Nat) (ds : List DV) (d : DV) : Prop := ∃ x, data x = true ∧ dep x ≤ m ∧ (∀ es, x = .l es ∨ x = .t es → es.length ≤ 10000) ∧ ds = [x, x] ∧ d = .b true
section
variable {w : World} {K : PySem.W.Frag} {mg : Str → Option Value} {base : Heap}

theorem ixs (K : PySem.W.Frag) {X : Cx} (h : X.K = K := by rfl) : IxR X (rIx K) := h ▸ ix_seq
theorem EvD.ixSq {ta tb : TE} {ss : List (Option DV)} {x d : DV} {es : List DV} {i : Int} (ha : EvD K ta ss x) (hx : x = .l es ∨ x = .t es) (hb : EvD K tb ss (.i i)) (h : atI es i = some d) : EvD K (tOp (rIx K) ta tb) ss d :=
  .op ha hb fun G F x y dj gG gF rx ry Q q => by
    rcases hx with e | e
    · subst e
      obtain ⟨p, vs, rfl, hs, hr⟩ := rx.l_inv
      obtain ⟨v, hv, rv⟩ := hr.atI h
      exact .inl ⟨p, vs, i, v, rfl, ry.int_inv, SqL.of (joi_l hs), hv, q v G (.refl dj gG gF) rv⟩
    · subst e
      obtain ⟨p, vs, rfl, hs, hr⟩ := rx.t_inv
      obtain ⟨v, hv, rv⟩ := hr.atI h
      exact .inr (.inl ⟨p, vs, i, v, rfl, ry.int_inv, sqt_same same_joi hs, hv, q v G (.refl dj gG gF) rv⟩)
theorem EvD.lenSq {te : TE} {ss : List (Option DV)} {x : DV} {es : List DV} (h : EvD K te ss x) (hx : x = .l es ∨ x = .t es) : EvD K (tCB (rLenS K) (tCons te tNil)) ss (.i es.length) := by
  rcases hx with e | e
  · subst e; exact .len h
  · subst e; exact .lenT h
mutual
/-- short everywhere -/
def shrt : DV → Bool
  | .l ds => decide (ds.length ≤ 10000) && shrtL ds
  | .t ds => decide (ds.length ≤ 10000) && shrtL ds
  | _ => true
def shrtL : List DV → Bool
  | [] => true
  | d :: ds => shrt d && shrtL ds
end
theorem shrt_get : ∀ {ds : List DV} {k : Nat} {d : DV}, shrtL ds = true → ds[k]? = some d → shrt d = true
  | [], _, _, _, h => by simp at h
  | e :: ds, 0, d, h0, h => by
    have h : e = d := by simpa using h
    subst h
    exact (Bool.and_eq_true_iff.mp h0).1
  | e :: ds, k + 1, d, h0, h => shrt_get (ds := ds) (k := k) (Bool.and_eq_true_iff.mp h0).2 (by simpa using h)
def ph_ex (m : Nat) (ds : List DV) (d : DV) : Prop := ∃ x, data x = true ∧ dep x < m ∧ shrt x = true ∧ ds = [x, x] ∧ d = .b true
theorem EvD.lcR1b {tl te : TE} {tt : TT} {ss : List (Option DV)} {i : Nat} {hi : Int} {p : Int → Bool} {f : Int → DV} (h : EvD K tl ss (.i hi)) (ht : ∀ k, 0 ≤ k → k < hi → EvB K tt ((ss.set i none).set i (some (.i k))) (p k)) (he : ∀ k, 0 ≤ k → k < hi → p k = true → EvD K te ((ss.set i none).set i (some (.i k))) (f k)) (h1 : -10000 ≤ hi) (h2 : hi ≤ 10000) :
    EvD K (tLc (iRng1 (tCons tl tNil)) (gName i) tt te [i]) ss (.l (fil 0 hi p f)) := EvD.lcR (wi_range1 h (by omega) (by omega)) ht he (by rw [sizeLine_eq]; omega)
theorem filI_none {lo hi : Int} : filI lo hi (fun _ => false) = [] := by
  unfold filI
  rw [List.filter_eq_nil_iff.mpr fun k _ => by simp]
  rfl
theorem ex_step (T : TX K mg) (m : Nat) (hm : m ≤ 8) (ok_rec : FnR PW w K mg base CX0 m (gA "_law_exact" K) (PD K (Pu (ph_ex m)))) : FnR PW w K mg base CX0 (m + 1) (gA "_law_exact" K) (PD K (Pu (ph_ex (m + 1)))) := by
  obtain ⟨fd, F⟩ := f_ulaw_exact T
  refine fnD_of F n_ulaw_exact (F.bindsN fun _ _ _ _ _ _ us hl => match us, hl with | [_, _], _ => rfl) (fun ds F P ⟨d, ⟨_, _, _, _, e, _⟩, _⟩ => by rw [e]; rfl) fun cdv A outer s H E hr => ⟨_, PSs.nox
    (pss_cons (ps_if (pt_cmpR op_isN (pv 1) pe_non (nomark _)) (pss_one (ps_ret (pe_cmpR op_isN (pv 0) pe_non (nomark _)))) pss_nil)
      (pss_cons (ps_if (pt_val (pe_callB call_isi (by rfl) (b_isinstance T) boot_isinstance' (pa_cons (pv 1) (pa_cons (pe_bltn (v := .ty "bool") (u := .type "bool") (by rfl) (b_bool T) (by decide +kernel) rfl) pa_nil)))) (pss_one (ps_ret (pe_and (pe_callB call_isi (by rfl) (b_isinstance T) boot_isinstance' (pa_cons (pv 0) (pa_cons (pe_bltn (v := .ty "bool") (u := .type "bool") (by rfl) (b_bool T) (by decide +kernel) rfl) pa_nil))) (pe_one (pe_cmpR op_eq (pv 0) (pv 1) (nomark _)))))) pss_nil)
      (pss_cons (ps_if (pt_val (pe_callB call_isi (by rfl) (b_isinstance T) boot_isinstance' (pa_cons (pv 1) (pa_cons (pe_bltn (v := .ty "int") (u := .type "int") (by rfl) (b_int T) (by decide +kernel) rfl) pa_nil)))) (pss_one (ps_ret (pe_and (pe_callB call_isi (by rfl) (b_isinstance T) boot_isinstance' (pa_cons (pv 0) (pa_cons (pe_bltn (v := .ty "int") (u := .type "int") (by rfl) (b_int T) (by decide +kernel) rfl) pa_nil))) (pe_and (pe_not (pe_callB call_isi (by rfl) (b_isinstance T) boot_isinstance' (pa_cons (pv 0) (pa_cons (pe_bltn (v := .ty "bool") (u := .type "bool") (by rfl) (b_bool T) (by decide +kernel) rfl) pa_nil)))) (pe_one (pe_cmpR op_eq (pv 0) (pv 1) (nomark _))))))) pss_nil)
      (pss_cons (ps_if (pt_val (pe_callB call_isi (by rfl) (b_isinstance T) boot_isinstance' (pa_cons (pv 1) (pa_cons (pe_bltn (v := .ty "str") (u := .type "str") (by rfl) (b_str T) (by decide +kernel) rfl) pa_nil)))) (pss_one (ps_ret (pe_and (pe_callB call_isi (by rfl) (b_isinstance T) boot_isinstance' (pa_cons (pv 0) (pa_cons (pe_bltn (v := .ty "str") (u := .type "str") (by rfl) (b_str T) (by decide +kernel) rfl) pa_nil))) (pe_one (pe_cmpR op_eq (pv 0) (pv 1) (nomark _)))))) pss_nil)
      (pss_cons (ps_if (PW.pt (pw_and (pt_val (pe_callB call_isi (by rfl) (b_isinstance T) boot_isinstance' (pa_cons (pv 1) (pa_cons (pe_bltn (v := .ty "tuple") (u := .type "tuple") (by rfl) (b_tuple T) (by decide +kernel) rfl) pa_nil)))) (pw_and1 (pt_not (pt_val (pe_callB call_isi (by rfl) (b_isinstance T) boot_isinstance' (pa_cons (pv 0) (pa_cons (pe_bltn (v := .ty "tuple") (u := .type "tuple") (by rfl) (b_tuple T) (by decide +kernel) rfl) pa_nil)))))))) (pss_one (ps_ret pe_bl)) pss_nil)
      (pss_cons (ps_if (PW.pt (pw_and (pt_val (pe_callB call_isi (by rfl) (b_isinstance T) boot_isinstance' (pa_cons (pv 1) (pa_cons (pe_bltn (v := .ty "list") (u := .type "list") (by rfl) (b_list T) (by decide +kernel) rfl) pa_nil)))) (pw_and1 (pt_not (pt_val (pe_callB call_isi (by rfl) (b_isinstance T) boot_isinstance' (pa_cons (pv 0) (pa_cons (pe_bltn (v := .ty "list") (u := .type "list") (by rfl) (b_list T) (by decide +kernel) rfl) pa_nil)))))))) (pss_one (ps_ret pe_bl)) pss_nil)
      (pss_cons (ps_if (pt_cmpR op_ne (pe_callB call_len_seq (by rfl) (b_len T) boot_len' (pa_cons (pv 0) pa_nil)) (pe_callB call_len_seq (by rfl) (b_len T) boot_len' (pa_cons (pv 1) pa_nil)) (nomark _)) (pss_one (ps_ret pe_bl)) pss_nil)
      (pss_one (ps_ret (pe_cmpR (op_eqD hr.units) (pe_lc (own := [("_law_k", 2)]) (g := gName 2) rfl n_ulaw_exact.nd (pi_range1 (by rfl) (b_range T) (pa_cons (pe_callB call_len_seq (by rfl) (b_len T) boot_len' (pa_cons (pv 1) pa_nil)) pa_nil)) (blkOk_by (own := [("_law_k", 2)]) (N := ["_law_told_here", "_law_due_here", "_law_k"]) (sc := defScope st_ulaw_exact) (by decide +kernel)) (fun _ _ _ _ _ => pg_name (i := 2) n_ulaw_exact.nd rfl (Or.inl rfl)) (fun _ _ _ _ _ => pts_one (pt_not (pt_val (pe_callR (ok_rec) (hr.mono (by omega)) rfl (g_ulaw_exact T) (k_ulaw_exact T) at0 (pa_cons (pe_ix (ixs K) (pv 0) (pv 2) (fun _ _ => rfl)) (pa_cons (pe_ix (ixs K) (pv 1) (pv 2) (fun _ _ => rfl)) pa_nil)))))) (fun _ _ _ _ _ => (pv 2))) (pe_lst pa_nil) (nomark _))))))))))), fun ds F P h gF => ?_⟩
  obtain ⟨d, ⟨x, hd, hm2, hs, rfl, rfl⟩, hP⟩ := h
  cases x with
  | n =>
    exact .seq (.ifT (.test (.isNone (a := .n) (.var rfl) .non)) rfl (.ret (.evf (d := .b true) (.isNone (a := .n) (.var rfl) .non) hP)))
  | b y =>
    refine .seq (.ifF (.test (.isNone (a := .b y) (.var rfl) .non)) rfl (.nil ?_))
    refine .seq (.ifT (.val (.isi (A := "bool") (T := "bool") (b := true) (.var rfl) rfl (by decide +kernel))) rfl (.ret (.evf (.and (c1 := true) (.isi (A := "bool") (T := "bool") (b := true) (.var rfl) rfl (by decide +kernel)) (fun _ => (.eqB (.var rfl) (.var rfl)))) ?_)))
    simpa using hP
  | i y =>
    refine .seq (.ifF (.test (.isNone (a := .i y) (.var rfl) .non)) rfl (.nil ?_))
    refine .seq (.ifF (.val (.isi (A := "int") (T := "bool") (b := false) (.var rfl) rfl (by decide +kernel))) rfl (.nil ?_))
    refine .seq (.ifT (.val (.isi (A := "int") (T := "int") (b := true) (.var rfl) rfl (by decide +kernel))) rfl (.ret (.evf (.and (c1 := true) (.isi (A := "int") (T := "int") (b := true) (.var rfl) rfl (by decide +kernel)) (fun _ => (EvD.and (c1 := true) (.not (c1 := false) (.isi (A := "int") (T := "bool") (b := false) (.var rfl) rfl (by decide +kernel))) (fun _ => (.eqI (.var rfl) (.var rfl)))))) ?_)))
    simpa using hP
  | s y =>
    refine .seq (.ifF (.test (.isNone (a := .s y) (.var rfl) .non)) rfl (.nil ?_))
    refine .seq (.ifF (.val (.isi (A := "str") (T := "bool") (b := false) (.var rfl) rfl (by decide +kernel))) rfl (.nil ?_))
    refine .seq (.ifF (.val (.isi (A := "str") (T := "int") (b := false) (.var rfl) rfl (by decide +kernel))) rfl (.nil ?_))
    refine .seq (.ifT (.val (.isi (A := "str") (T := "str") (b := true) (.var rfl) rfl (by decide +kernel))) rfl (.ret (.evf (.and (c1 := true) (.isi (A := "str") (T := "str") (b := true) (.var rfl) rfl (by decide +kernel)) (fun _ => (.eqS (.var rfl) (.var rfl)))) ?_)))
    simpa using hP
  | l es =>
    obtain ⟨hs1, hsh⟩ := Bool.and_eq_true_iff.mp hs
    have hle := of_decide_eq_true hs1
    have hda : dataL es = true := hd
    have hde : depL es < m := by
      have : depL es + 1 < m + 1 := hm2
      omega
    refine .seq (.ifF (.test (.isNone (a := .l es) (.var rfl) .non)) rfl (.nil ?_))
    refine .seq (.ifF (.val (.isi (A := "list") (T := "bool") (b := false) (.var rfl) rfl (by decide +kernel))) rfl (.nil ?_))
    refine .seq (.ifF (.val (.isi (A := "list") (T := "int") (b := false) (.var rfl) rfl (by decide +kernel))) rfl (.nil ?_))
    refine .seq (.ifF (.val (.isi (A := "list") (T := "str") (b := false) (.var rfl) rfl (by decide +kernel))) rfl (.nil ?_))
    refine .seq (.ifF (.and (c1 := false) (c2 := false) (.val (.isi (A := "list") (T := "tuple") (b := false) (.var rfl) rfl (by decide +kernel))) (fun z => by cases z)) rfl (.nil ?_))
    refine .seq (.ifF (.and (c1 := true) (c2 := false) (.val (.isi (A := "list") (T := "list") (b := true) (.var rfl) rfl (by decide +kernel))) (fun _ => .not (c1 := true) (.val (.isi (A := "list") (T := "list") (b := true) (.var rfl) rfl (by decide +kernel))))) rfl (.nil ?_))
    refine .seq (.ifF (.test (.neI (.lenSq (.var rfl) (.inl rfl)) (.lenSq (.var rfl) (.inl rfl)))) (by simp) (.nil ?_))
    refine .ret (.evf (d := .b true) (by
      have z : (true : Bool) = (filI 0 (es.length : Int) fun _ => false).isEmpty := by rw [filI_none]; rfl
      rw [z]
      refine EvD.eqNil ?_ (.lst .nil (by rw [sizeLine_eq]; show 0 ≤ 16777216; omega))
      rw [← fil_i]
      refine .lcR1b (.lenSq (.var rfl) (.inl rfl)) (fun k k0 k1 => ?_) (fun _ _ _ _ => .var rfl) (by omega) (by omega)
      obtain ⟨j, rfl⟩ := Int.eq_ofNat_of_zero_le k0
      have hj : j < es.length := by omega
      have hg : es[j]? = some es[j] := List.getElem?_eq_getElem hj
      exact .not (c1 := true) (.val (.call (.cons (.ixSq (.var rfl) (.inl rfl) (.var rfl) (atI_nat hg)) (.cons (.ixSq (.var rfl) (.inl rfl) (.var rfl) (atI_nat hg)) .nil)) ⟨es[j], data_get hda hg, Nat.lt_of_le_of_lt (dep_get hg) hde, shrt_get hsh hg, rfl, rfl⟩))) hP)
  | t es =>
    obtain ⟨hs1, hsh⟩ := Bool.and_eq_true_iff.mp hs
    have hle := of_decide_eq_true hs1
    have hda : dataL es = true := hd
    have hde : depL es < m := by
      have : depL es + 1 < m + 1 := hm2
      omega
    refine .seq (.ifF (.test (.isNone (a := .t es) (.var rfl) .non)) rfl (.nil ?_))
    refine .seq (.ifF (.val (.isi (A := "tuple") (T := "bool") (b := false) (.var rfl) rfl (by decide +kernel))) rfl (.nil ?_))
    refine .seq (.ifF (.val (.isi (A := "tuple") (T := "int") (b := false) (.var rfl) rfl (by decide +kernel))) rfl (.nil ?_))
    refine .seq (.ifF (.val (.isi (A := "tuple") (T := "str") (b := false) (.var rfl) rfl (by decide +kernel))) rfl (.nil ?_))
    refine .seq (.ifF (.and (c1 := true) (c2 := false) (.val (.isi (A := "tuple") (T := "tuple") (b := true) (.var rfl) rfl (by decide +kernel))) (fun _ => .not (c1 := true) (.val (.isi (A := "tuple") (T := "tuple") (b := true) (.var rfl) rfl (by decide +kernel))))) rfl (.nil ?_))
    refine .seq (.ifF (.and (c1 := false) (c2 := false) (.val (.isi (A := "tuple") (T := "list") (b := false) (.var rfl) rfl (by decide +kernel))) (fun z => by cases z)) rfl (.nil ?_))
    refine .seq (.ifF (.test (.neI (.lenSq (.var rfl) (.inr rfl)) (.lenSq (.var rfl) (.inr rfl)))) (by simp) (.nil ?_))
    refine .ret (.evf (d := .b true) (by
      have z : (true : Bool) = (filI 0 (es.length : Int) fun _ => false).isEmpty := by rw [filI_none]; rfl
      rw [z]
      refine EvD.eqNil ?_ (.lst .nil (by rw [sizeLine_eq]; show 0 ≤ 16777216; omega))
      rw [← fil_i]
      refine .lcR1b (.lenSq (.var rfl) (.inr rfl)) (fun k k0 k1 => ?_) (fun _ _ _ _ => .var rfl) (by omega) (by omega)
      obtain ⟨j, rfl⟩ := Int.eq_ofNat_of_zero_le k0
      have hj : j < es.length := by omega
      have hg : es[j]? = some es[j] := List.getElem?_eq_getElem hj
      exact .not (c1 := true) (.val (.call (.cons (.ixSq (.var rfl) (.inr rfl) (.var rfl) (atI_nat hg)) (.cons (.ixSq (.var rfl) (.inr rfl) (.var rfl) (atI_nat hg)) .nil)) ⟨es[j], data_get hda hg, Nat.lt_of_le_of_lt (dep_get hg) hde, shrt_get hsh hg, rfl, rfl⟩))) hP)
  | lk _ _ _ _ => cases hd
  | m _ => cases hd
  | sc _ => cases hd
  | o _ => cases hd
  | ob _ _ => cases hd
  | dc _ => cases hd
  | gh _ _ _ => cases hd

theorem ok_exact_n (T : TX K mg) : ∀ m : Nat, m ≤ 8 → FnR PW w K mg base CX0 m (gA "_law_exact" K) (PD K (Pu (ph_ex m)))
  | 0, _ => fun A outer s H us vs Q E hr e0 r ⟨G, F, ds, P, _, _, _, _, _, ⟨d, ⟨x, _, hx, _⟩, _⟩, _⟩ => absurd hx (Nat.not_lt_zero _)
  | m + 1, h => ex_step T m (by omega) (ok_exact_n T m (by omega))
theorem ok_ulaw_exact (T : TX K mg) : FnR PW w K mg base CX0 6 (gA "_law_exact" K) (PD K (Pu (ph_ex 4))) := (ok_exact_n T 4 (by omega)).mono (by omega)

end
end Lay
end
section
set_option Elab.async false
set_option linter.all false
set_option autoImplicit false
set_option maxRecDepth 100000
set_option maxHeartbeats 4000000
/-! own layer N: objects that change: views, frames, fields -/
namespace Lay
open PySem PySem.Spec PyProof.Rows L2
def nilH : Hp := fun _ => none
theorem good_nil : Good nilH := ⟨fun _ _ h => (by cases h), fun _ _ _ _ h => (by cases h), fun _ _ h => (by cases h)⟩
theorem disj_nil {G : Hp} : Disj G nilH := fun _ => .inr rfl
theorem joi_nil {G : Hp} : joi G nilH = G := by
  funext b
  cases h : G b with
  | none => rw [joi_r h]; rfl
  | some o => exact joi_l h
/-- what stood in F, taken out of a heap that holds it -/
theorem joi_out {G F : Hp} (e : Same F G) : joi (dif G F) F = G := by
  funext b
  cases h : F b with
  | none =>
    have hd : dif G F b = G b := dif_r h
    cases g : G b with
    | none =>
      rw [joi_r (by rw [hd, g]), h]
    | some o => exact joi_l (by rw [hd, g])
  | some o =>
    rw [joi_r (dif_l h), h, e b o h]
theorem joi_assoc {A B C : Hp} : joi (joi A B) C = joi A (joi B C) := by
  funext b
  cases h : A b with
  | some o => rw [joi_l (joi_l h), joi_l h]
  | none =>
    rw [joi_r (F := joi B C) h]
    cases h2 : B b with
    | some o => rw [joi_l (F := C) h2, joi_l (show joi A B b = some o by rw [joi_r h, h2])]
    | none => rw [joi_r (F := C) h2, joi_r (show joi A B b = none by rw [joi_r h, h2])]
theorem joi_comm {A B : Hp} (d : Disj A B) : joi A B = joi B A := by
  funext b
  rcases d b with h | h
  · rw [joi_r h]
    cases h2 : B b with
    | none => rw [joi_r h2, h]
    | some o => rw [joi_l h2]
  · rw [joi_r h]
    cases h2 : A b with
    | none => rw [joi_r h2, h]
    | some o => rw [joi_l h2]
/-- the value of flat data -/
def vl : DV → V
  | .n => .non
  | .b b => .bl b
  | .i i => .int i
  | .s s => .str s
  | .m a => .ref a
  | _ => .non
def flatM : DV → Bool
  | .n => true
  | .b _ => true
  | .i _ => true
  | .s _ => true
  | .m _ => true
  | _ => false
theorem flatM_of {d : DV} (h : flatD d = true) : flatM d = true := by cases d <;> first | rfl | cases h
section
variable {K : PySem.W.Frag} {te ta tb tl : TE} {tt tu : TT} {ts tr : TS} {tas : TA} {ss ss' : List (Option DV)} {F : Hp} {P P' : DV → Hp → Prop} {PB : Bool → Hp → Prop} {a b d d' : DV} {N : List (Option DV) → Hp → Prop} {R : DV → Hp → Prop} {c c1 c2 : Bool} {ds es : List DV} {φ : List DV → DV → Prop} {E : L2.St → XK} {Φ : Ph}
theorem rep_vl {G : Hp} {v : V} (r : Rep K G v d) (h : flatM d = true) : v = vl d := by cases r <;> first | rfl | cases h
theorem rep_flat {G G' : Hp} {v : V} (r : Rep K G v d) (h : flatM d = true) : Rep K G' v d := by
  cases r <;> first | exact .n | exact .b _ | exact .i _ | exact .s _ | exact .m _ | cases h
/-! ### what is in F is only looked at -/
theorem gr_out {G F G' : Hp} (dj : Disj G F) (gG : Good G) (gF : Good F) (e : Gr (joi G F) G' nilH) : Gr G (dif G' F) F ∧ joi (dif G' F) F = G' := by
  have sF : Same F G' := (same_joi_r dj).trans e.sm
  refine ⟨⟨fun b o h => ?_, (disj_dif (H := G') (G := F)).symm, e.gG.dif gF sF, gF⟩, joi_out sF⟩
  have hF : F b = none := (dj b).resolve_left fun z => by rw [h] at z; cases z
  rw [dif_r hF]
  exact e.sm b o (joi_l h)
theorem okk_view {σ : L2.St} {G : Hp} (o : Okk K G F σ ss) (hv : Sg K (joi G F) σ ss') : Okk K (joi G F) nilH σ ss' := ⟨hv, disj_nil, o.gG.joi o.gF o.dj, good_nil⟩
theorem EvF.view (h : EvD K te ss' d) (hl : flatD d = true) (hv : ∀ G σ, Okk K G F σ ss → Sg K (joi G F) σ ss') (p : P d F) : EvF K te ss F P := fun σ G o Q go => by
  have z := h.at (F := nilH) (G := joi G F) (Q := Q) (okk_view o (hv G σ o)) fun v G' g r => by
    obtain ⟨g1, e⟩ := gr_out o.dj o.gG o.gF g
    rw [joi_nil, ← e]
    exact go v d _ F g1 (rep_flat r (flatM_of hl)) p
  rwa [joi_nil] at z
theorem EvT.view (h : EvB K tt ss' c) (hv : ∀ G σ, Okk K G F σ ss → Sg K (joi G F) σ ss') (p : PB c F) : EvT K tt ss F PB := fun σ G o Q go => by
  have z := h.at (F := nilH) (G := joi G F) (Q := Q) (okk_view o (hv G σ o)) fun G' g => by
    obtain ⟨g1, e⟩ := gr_out o.dj o.gG o.gF g
    rw [joi_nil, ← e]
    exact go c _ F g1 p
  rwa [joi_nil] at z
theorem EvA.view {PA : List DV → Hp → Prop} (h : EvAs K tas ss' ds) (hl : ds.all flatD = true) (hv : ∀ G σ, Okk K G F σ ss → Sg K (joi G F) σ ss') (p : PA ds F) : EvA K tas ss F PA := fun σ G o Q go => by
  have z := h.at (F := nilH) (G := joi G F) (Q := Q) (okk_view o (hv G σ o)) fun vs G' g r => by
    obtain ⟨g1, e⟩ := gr_out o.dj o.gG o.gF g
    rw [joi_nil, ← e]
    refine go vs ds _ F g1 ⟨r.1, fun k v d h1 h2 => rep_flat (r.2 k v d h1 h2) (flatM_of ?_)⟩ p
    exact List.all_eq_true.mp hl d (List.mem_of_getElem? h2)
  rwa [joi_nil] at z
/-- one slot seen better -/
theorem Sg.seen {σ : L2.St} {G : Hp} {i : Nat} {p : Addr} (o : Okk K G F σ ss) (hi : ss[i]? = some (some (.m p))) (hr : Rep K F (.ref p) d') : Sg K (joi G F) σ (ss.set i (some d')) := by
  obtain ⟨v, h1, h2⟩ := o.sg.2 i _ hi
  obtain rfl := h2.m_inv
  have z := (o.sg.same (same_joi (F := F))).set (j := i) (v := .ref p) (d := d') (hr.same (same_joi_r o.dj))
  have e : σ.set i (some (.ref p)) = σ := by
    refine List.ext_getElem? fun k => ?_
    rw [List.getElem?_set]
    by_cases hk : i = k
    · subst hk
      have hlt := (List.getElem?_eq_some_iff.mp h1).1
      rw [if_pos rfl, if_pos hlt, h1]
    · rw [if_neg hk]
  rwa [e] at z
theorem EvF.see {i : Nat} {p : Addr} (hi : ss[i]? = some (some (.m p))) (hr : Rep K F (.ref p) d') (h : EvD K te (ss.set i (some d')) d) (hl : flatD d = true) (q : P d F) : EvF K te ss F P := .view h hl (fun G σ o => Sg.seen o hi hr) q
theorem EvT.see {i : Nat} {p : Addr} (hi : ss[i]? = some (some (.m p))) (hr : Rep K F (.ref p) d') (h : EvB K tt (ss.set i (some d')) c) (q : PB c F) : EvT K tt ss F PB := .view h (fun G σ o => Sg.seen o hi hr) q
theorem EvA.see {i : Nat} {p : Addr} {PA : List DV → Hp → Prop} (hi : ss[i]? = some (some (.m p))) (hr : Rep K F (.ref p) d') (h : EvAs K tas (ss.set i (some d')) ds) (hl : ds.all flatD = true) (q : PA ds F) : EvA K tas ss F PA := .view h hl (fun G σ o => Sg.seen o hi hr) q
/-! ### promises framed -/
def FrΦ (Φ : Ph) : Ph := fun ds F P => ∃ F1 F2, F = joi F1 F2 ∧ Disj F1 F2 ∧ Good F1 ∧ Good F2 ∧ Φ ds F1 fun d F1' => Disj F1' F2 → Good F1' → P d (joi F1' F2)
theorem FnR.fr {Pg : Program} {w : World} {mg : Str → Option Value} {base : Heap} {k : Nat} {f : Addr} (h : FnR Pg w K mg base CX0 k f (PD K Φ)) : FnR Pg w K mg base CX0 k f (PD K (FrΦ Φ)) :=
  (FnR.frm0 h).imp fun vs H Q E ⟨G, F, ds, P, eH, dj, gG, gF, r, ⟨F1, F2, eF, d12, g1, g2, hΦ⟩, go⟩ => by
    subst eH eF
    have dG1 : Disj G F1 := fun b => by
      rcases dj b with z | z
      · exact .inl z
      · exact .inr (joi_none z).1
    have dG2 : Disj (joi G F1) F2 := fun b => by
      rcases d12 b with z | z
      · rcases dj b with y | y
        · exact .inl (by rw [joi_r y, z])
        · exact .inr (joi_none y).2
      · exact .inr z
    refine ⟨joi G F1, F2, gG.joi g1 dG1, g2, dG2, joi_assoc.symm, G, F1, ds, _, rfl, dG1, gG, g1, r, hΦ, fun v d G' F1' g rv p dd => ?_⟩
    have dGF : Disj G' F2 := fun b => by
      rcases dd b with z | z
      · exact .inl (joi_none z).1
      · exact .inr z
    have dFF : Disj F1' F2 := fun b => by
      rcases dd b with z | z
      · exact .inl (joi_none z).2
      · exact .inr z
    rw [joi_assoc]
    refine go v d G' (joi F1' F2) ⟨g.sm, fun b => ?_, g.gG, g.gF.joi g2 dFF⟩ rv (p dFF g.gF)
    rcases g.dj b with z | z
    · exact .inl z
    · rcases dGF b with y | y
      · exact .inl y
      · exact .inr (by rw [joi_r z, y])
def FrX (Φ : PhX) : PhX := fun ds F P PE => ∃ F1 F2, F = joi F1 F2 ∧ Disj F1 F2 ∧ Good F1 ∧ Good F2 ∧ Φ ds F1 (fun d F1' => Disj F1' F2 → Good F1' → P d (joi F1' F2)) fun x fs F1' => Disj F1' F2 → Good F1' → PE x fs (joi F1' F2)
theorem FnR.frX {Pg : Program} {w : World} {mg : Str → Option Value} {base : Heap} {k : Nat} {f : Addr} {Φ : PhX} (h : FnR Pg w K mg base (L2.CX Pg w) k f (PDX K Φ)) : FnR Pg w K mg base (L2.CX Pg w) k f (PDX K (FrX Φ)) :=
  (FnR.frmX h).imp fun vs H Q E ⟨G, F, ds, P, PE, eH, dj, gG, gF, r, ⟨F1, F2, eF, d12, g1, g2, hΦ⟩, go, gx⟩ => by
    subst eH eF
    have dG1 : Disj G F1 := fun b => by
      rcases dj b with z | z
      · exact .inl z
      · exact .inr (joi_none z).1
    have dG2 : Disj (joi G F1) F2 := fun b => by
      rcases d12 b with z | z
      · rcases dj b with y | y
        · exact .inl (by rw [joi_r y, z])
        · exact .inr (joi_none y).2
      · exact .inr z
    have key : ∀ G' F1', Gr G G' F1' → Disj (joi G' F1') F2 → Disj F1' F2 ∧ Gr G G' (joi F1' F2) := fun G' F1' g dd => by
      have dGF : Disj G' F2 := fun b => by
        rcases dd b with z | z
        · exact .inl (joi_none z).1
        · exact .inr z
      have dFF : Disj F1' F2 := fun b => by
        rcases dd b with z | z
        · exact .inl (joi_none z).2
        · exact .inr z
      refine ⟨dFF, g.sm, fun b => ?_, g.gG, g.gF.joi g2 dFF⟩
      rcases g.dj b with z | z
      · exact .inl z
      · rcases dGF b with y | y
        · exact .inl y
        · exact .inr (by rw [joi_r z, y])
    refine ⟨joi G F1, F2, gG.joi g1 dG1, g2, dG2, joi_assoc.symm, G, F1, ds, _, _, rfl, dG1, gG, g1, r, hΦ, fun v d G' F1' g rv p dd => ?_, fun x fs G' F1' d H' g p z dd => ?_⟩
    · obtain ⟨dFF, g3⟩ := key G' F1' g dd
      rw [joi_assoc]
      exact go v d G' (joi F1' F2) g3 rv (p dFF g.gF)
    · have dd2 : Disj (joi G' F1') F2 := by
        rcases z with ⟨_, _, e⟩ | ⟨q, _, hq, e⟩
        · rw [← e]; exact dd
        · intro b
          rcases dd b with y | y
          · rw [e] at y
            by_cases hb : b = q
            · subst hb; exact .inl hq
            · rw [upd_ne hb] at y; exact .inl y
          · exact .inr y
      obtain ⟨dFF, g3⟩ := key G' F1' g dd2
      refine gx x fs G' (joi F1' F2) d _ g3 (p dFF g.gF) ?_
      rcases z with ⟨e1, e2, e⟩ | ⟨q, e1, hq, e⟩
      · exact .inl ⟨e1, e2, by rw [e, joi_assoc]⟩
      · subst e
        have hq2 : F2 q = none := (dd q).resolve_left fun y => by rw [upd_same] at y; cases y
        refine .inr ⟨q, e1, ?_, ?_⟩
        · rw [← joi_assoc, joi_r hq, hq2]
        · rw [← joi_assoc, ← joi_new]
/-! ### a callee that only looks at what is in F and makes something new -/
theorem EvF.fresh (h : EvA K tas ss F fun ds F' => F' = F ∧ ∃ ds1, (∀ G, Disj G F → ∀ vs, RepL K G vs ds → RepL K (joi G F) vs ds1) ∧ Φ ds1 nilH fun d F0 => flatM d = true ∧ (Disj F F0 → Good F0 → P d (joi F F0))) : EvF K (tCallS (PD K Φ) E tas) ss F P := fun σ G o Q go => h σ G o _ fun vs ds G1 F1 g1 rs ⟨e, ds1, hr, hΦ⟩ => by
  subst e
  refine ⟨joi G1 F1, nilH, ds1, _, joi_nil.symm, disj_nil, g1.gG.joi g1.gF g1.dj, good_nil, hr G1 g1.dj vs rs, hΦ, fun v d G' F0 g r ⟨hf, p⟩ => ?_⟩
  have sF : Same F1 G' := (same_joi_r g1.dj).trans g.sm
  have dF0 : Disj F1 F0 := fun b => by
    cases z : F1 b with
    | none => exact .inl rfl
    | some o => exact .inr ((g.dj b).resolve_left fun y => by rw [sF b o z] at y; cases y)
  have e : joi G' F0 = joi (dif G' F1) (joi F1 F0) := by rw [← joi_assoc, joi_out sF]
  rw [e]
  refine go v d (dif G' F1) (joi F1 F0) (g1.trans ⟨fun b o z => ?_, fun b => ?_, g.gG.dif g1.gF sF, g1.gF.joi g.gF dF0⟩) (rep_flat r hf) (p dF0 g.gF)
  · have hF : F1 b = none := (g1.dj b).resolve_left fun y => by rw [z] at y; cases y
    rw [dif_r hF]
    exact g.sm b o (joi_l z)
  · cases z : dif G' F1 b with
    | none => exact .inl rfl
    | some o =>
      obtain ⟨z1, z2⟩ := dif_some z
      exact .inr (by rw [joi_r z1]; exact (g.dj b).resolve_left fun y => by rw [z2] at y; cases y)
/-! ### fields of objects in F -/
theorem EvF.fldF {p C dx : Addr} {fs : List (Str × V)} {f : Str} {v : V} (ha : EvD K ta ss (.m p)) (hF : F p = some (.ins C dx fs)) (c : Cls K C) (na : NoAttr K C f) (hf : fs.lookup f = some v) (hv : flat0 v) (q : P (up v) F) : EvF K (tFld K ta f) ss F P := fun σ G o Q go => ha.at o fun x G1 g1 rx => by
  obtain rfl := rx.m_inv
  have hG : G1 p = none := (g1.dj p).resolve_right fun z => by rw [hF] at z; cases z
  exact ⟨p, C, dx, fs, v, rfl, by rw [joi_r hG]; exact hF, c, na, hf, go v (up v) G1 F g1 (Rep.up hv) q⟩
theorem Gr.fld {G : Hp} {p C dx : Addr} {fs fs' : List (Str × V)} (d : Disj G F) (g : Good G) (f : Good F) (hp : F p = some (.ins C dx fs)) : Gr G G (upd F p (.ins C dx fs')) := by
  refine ⟨Same.refl G, fun b => ?_, g, f.fld hp⟩
  by_cases e : b = p
  · subst e
    exact .inl ((d b).resolve_right fun z => by rw [hp] at z; cases z)
  · rw [upd_ne e]; exact d b
theorem RnF.fldSet {p C : Addr} {f : Str} (he : EvF K te ss F fun d F1 => flatM d = true ∧ ∃ dx fs, F1 p = some (.ins C dx fs) ∧ fs.length < 1000 ∧ N ss (upd F1 p (.ins C dx (putF f (vl d) fs)))) (ha : EvD K ta ss (.m p)) (c : Cls K C) (na : NoAttr K C f) :
    RnF K (sFld K ta te f) ss F N R := fun σ G o D nx rt => he σ G o _ fun y d G1 F1 g1 ry ⟨hv, dx, fs, hF, hl, hn⟩ => by
  have ey := rep_vl ry hv
  subst ey
  refine ha.at (o.gr g1) fun x G2 g2 rx => ?_
  obtain rfl := rx.m_inv
  have hG : G2 p = none := (g2.dj p).resolve_right fun z => by rw [hF] at z; cases z
  refine ⟨p, C, dx, fs, rfl, by rw [joi_r hG]; exact hF, c, na, hl, ?_⟩
  rw [joi_put hG]
  exact nx σ ss G2 _ ((g1.trans g2).trans (.fld g2.dj g2.gG g2.gF hF)) (o.gr (g1.trans g2)).sg hn
theorem EvF.newF {C : Str} (hp : ∀ y dx, F y = none → F dx = none → dx ≠ y → P (.m y) (upd (upd F dx (.own y)) y (.ins (He.ga K C) dx []))) : EvF K (tNew (He.ga K C)) ss F P := fun σ G o Q go => fun y dx hy hd ne => by
  have h1 := joi_none hy
  have h2 := joi_none hd
  rw [joi_put h2.1, joi_put h1.1]
  refine go _ (.m y) G _ ⟨Same.refl G, fun b => ?_, o.gG, o.gF.made h1.2 h2.2 ne⟩ (.m y) (hp y dx h1.2 h2.2 ne)
  by_cases hb : b = y
  · subst hb; exact .inl h1.1
  · rw [upd_ne hb]
    by_cases hb2 : b = dx
    · subst hb2; exact .inl h2.1
    · rw [upd_ne hb2]; exact o.dj b
/-- o.m(e, ..), o an object in F -/
theorem EvF.meth {p C dx : Addr} {fs : List (Str × V)} {m : Str} (ha : EvD K ta ss (.m p)) (hF : F p = some (.ins C dx fs)) (hm : fs.lookup m = none) (hs : EvA K tas ss F fun ds F' => Φ (.m p :: ds) F' P) : EvF K (tMethE C m (PD K Φ) E ta tas) ss F P := fun σ G o Q go => ha.at o fun x G1 g1 rx => by
  obtain rfl := rx.m_inv
  have hG : G1 p = none := (g1.dj p).resolve_right fun z => by rw [hF] at z; cases z
  exact ⟨p, dx, fs, rfl, by rw [joi_r hG]; exact hF, hm, hs σ G1 (o.gr g1) _ fun vs ds G2 F2 g2 rs hΦ => ⟨G2, F2, _, P, rfl, g2.dj, g2.gG, g2.gF, .cons (.m p) rs, hΦ, go.gr (g1.trans g2)⟩⟩
theorem EvX.meth {Φ : PhX} {E : XK} {PE : XP} {p C dx : Addr} {fs : List (Str × V)} {m : Str} (ha : EvD K ta ss (.m p)) (hF : F p = some (.ins C dx fs)) (hm : fs.lookup m = none) (hs : EvA K tas ss F fun ds F' => Φ (.m p :: ds) F' P PE) : EvX K E (tMethE C m (PDX K Φ) (fun _ => E) ta tas) ss F P PE := fun σ G o Q go gx => ha.at o fun x G1 g1 rx => by
  obtain rfl := rx.m_inv
  have hG : G1 p = none := (g1.dj p).resolve_right fun z => by rw [hF] at z; cases z
  exact ⟨p, dx, fs, rfl, by rw [joi_r hG]; exact hF, hm, hs σ G1 (o.gr g1) _ fun vs ds G2 F2 g2 rs hΦ => ⟨G2, F2, _, P, PE, rfl, g2.dj, g2.gG, g2.gF, .cons (.m p) rs, hΦ, go.gr (g1.trans g2), gx.gr (g1.trans g2)⟩⟩
/-- e in F, then on -/
theorem EvF.bindA {F : Hp} {PA : List DV → Hp → Prop} (h : EvF K te ss F fun d F1 => EvA K tas ss F1 fun ds F2 => PA (d :: ds) F2) : EvA K (tCons te tas) ss F PA := .cons h
theorem EvD.fldO {C f : Str} {fs : List (Str × DV)} (h : EvD K ta ss (.ob C fs)) (hf : fs.lookup f = some d) (c : Cls K (He.ga K C)) (na : NoAttr K (He.ga K C) f) : EvD K (tFld K ta f) ss d := .mk fun σ G F o Q q => h.at o fun x G1 g1 rx => by
  cases rx with
  | ob val h1 h2 h3 => exact ⟨_, _, _, _, _, rfl, joi_l h1, c, na, h2 f d hf, q _ G1 g1 (h3 f d hf)⟩
theorem EvD.dget {f : Str} {fs : List (Str × DV)} (h : EvD K ta ss (.dc fs)) (hb : EvD K tb ss (.s f)) (hf : fs.lookup f = some d) : EvD K (tDGet ta tb) ss d := .mk fun σ G F o Q q => h.at o fun x G1 g1 rx => hb.at (o.gr g1) fun y G2 g2 ry => by
  obtain rfl := ry.str_inv
  cases rx with
  | dc val h1 h2 h3 => exact ⟨_, _, rfl, .inl ⟨_, .inr f, .inl (joi_l (g2.sm _ _ h1)), rfl, (h2 f d hf).symm⟩, q _ G2 (g1.trans g2) ((h3 f d hf).same g2.sm)⟩
end
end Lay
end
section
set_option Elab.async false
set_option linter.all false
set_option autoImplicit false
set_option maxRecDepth 100000
set_option maxHeartbeats 4000000
/-! own layer O: Links objects that change -/
namespace Lay
open PySem PySem.Spec PyProof.Rows L2
/-- a Links object's parts -/
structure LkP (K : PySem.W.Frag) (F : Hp) (a dx l r f : Addr) (s : St) : Prop where
  oa : F a = some (.ins (He.ga K "Links") dx [("size", .int s.n), ("_lefts", .ref l), ("_rights", .ref r), ("_flags", .ref f)])
  ol : F l = some (.lst ((tab (s.n + 2) s.L).map V.int))
  or : F r = some (.lst ((tab (s.n + 2) s.R).map V.int))
  of : F f = some (.lst ((tab (s.n + 2) s.O).map V.bl))
  lr : l ≠ r
  lf : l ≠ f
  rf : r ≠ f
/-- a new one, beside F -/
structure NewL (K : PySem.W.Frag) (F F' : Hp) (a : Addr) (s : St) : Prop where
  ex : ∃ dx l r f, LkP K F' a dx l r f s ∧ F a = none ∧ F l = none ∧ F r = none ∧ F f = none
  sm : Same F F'
theorem LkP.rep {K : PySem.W.Frag} {F : Hp} {a dx l r f : Addr} {s : St} (h : LkP K F a dx l r f s) : Rep K F (.ref a) s.K := .lk ⟨dx, l, r, f, h.oa, h.ol, h.or, h.of⟩
section
variable {K : PySem.W.Frag} {te ta tb tl to_ ti : TE} {tt tu : TT} {ts tr : TS} {tas : TA} {ss : List (Option DV)} {F : Hp} {P P' : DV → Hp → Prop} {a b d : DV} {N : List (Option DV) → Hp → Prop} {R : DV → Hp → Prop} {c c1 c2 : Bool} {ds es : List DV} {φ : List DV → DV → Prop} {E : L2.St → XK} {Φ : Ph}
theorem EvF.listRgF {i j : Int} (ha : EvD K ta ss (.i i)) (hb : EvD K tb ss (.i j)) (h : RgOk i j) (hp : ∀ p, F p = none → P (.m p) (upd F p (.lst (rgV i j)))) : EvF K (tLstRg (tRg2 ta tb)) ss F P := fun σ G o Q go =>
  ha.at o fun x G1 g1 rx => hb.at (o.gr g1) fun y G2 g2 ry => ⟨i, j, rx.int_inv, ry.int_inv, h, fun q hq => by
    rw [joi_put (joi_none hq).1]
    exact go _ (.m q) G2 _ ((g1.trans g2).trans (.newF g2.dj g2.gG g2.gF hq)) (.m q) (hp q (joi_none hq).2)⟩
theorem EvF.repF {k : Int} (ha : EvD K ta ss (.l [d])) (hb : EvD K tb ss (.i k)) (hd : flatM d = true) (h0 : 0 ≤ k) (h1 : k ≤ 1000) (hp : ∀ p, F p = none → P (.m p) (upd F p (.lst (List.replicate k.toNat (vl d))))) : EvF K (tOp rRep ta tb) ss F P := fun σ G o Q go =>
  ha.at o fun x G1 g1 rx => hb.at (o.gr g1) fun y G2 g2 ry => by
    obtain ⟨p, vs, rfl, hp1, hr⟩ := rx.l_inv
    obtain ⟨v, rfl, rv⟩ := hr.one
    have ev := rep_vl rv hd
    subst ev
    refine ⟨p, k, [vl d], rfl, ry.int_inv, joi_l (g2.sm _ _ hp1), by omega, by omega, by rw [sizeLine_eq]; show 1 * k.toNat ≤ 16777216; omega, fun q hq => ?_⟩
    have e : (List.replicate k.toNat [vl d]).flatten = List.replicate k.toNat (vl d) := by
      rw [← List.map_replicate (f := fun x => [x])]
      simp
    rw [e, joi_put (joi_none hq).1]
    exact go _ (.m q) G2 _ ((g1.trans g2).trans (.newF g2.dj g2.gG g2.gF hq)) (.m q) (hp q (joi_none hq).2)
/-- C(e, ..): the new instance in F -/
theorem EvF.make {C : Str} {E : XK} (hs : EvA K tas ss F fun ds F' => ∀ x dx, F' x = none → F' dx = none → dx ≠ x → Φ (.m x :: ds) (upd (upd F' dx (.own x)) x (.ins (He.ga K C) dx [])) fun d F2 => d = .n ∧ P (.m x) F2) : EvF K (StX.tMakeR (He.ga K C) (PD K Φ) E tas) ss F P := fun σ G o Q go => hs σ G o _ fun vs ds G1 F1 g1 rs h => fun x dx hx hd ne => by
  have h1 := joi_none hx
  have h2 := joi_none hd
  have gr : Gr G1 G1 (upd (upd F1 dx (.own x)) x (.ins (He.ga K C) dx [])) := ⟨Same.refl _, fun b => by
    by_cases hb : b = x
    · subst hb; exact .inl h1.1
    · rw [upd_ne hb]
      by_cases hb2 : b = dx
      · subst hb2; exact .inl h2.1
      · rw [upd_ne hb2]; exact g1.dj b, g1.gG, g1.gF.made h1.2 h2.2 ne⟩
  refine ⟨G1, _, _, _, ?_, gr.dj, g1.gG, gr.gF, .cons (.m x) rs, h x dx h1.2 h2.2 ne, fun v d G' F' g rv ⟨e, p⟩ => ?_⟩
  · rw [joi_put h2.1, joi_put h1.1]
  · subst e
    exact ⟨rv.non_inv, go _ (.m x) G' F' (g1.trans ⟨g.sm, g.dj, g.gG, g.gF⟩) (.m x) p⟩
/-- x[k] = e, the list told by an expression -/
theorem RnF.setFF {p : Addr} {vs : List V} {k : Int} {j : Nat} (he : EvD K te ss d) (hx : EvF K to_ ss F fun d F' => d = .m p ∧ F' = F) (hi : EvD K ti ss (.i k)) (hF : F p = some (.lst vs)) (hj : ixN vs.length k = some j) (hd : flatM d = true) (hn : N ss (upd F p (.lst (vs.set j (vl d))))) :
    RnF K (tAsg te (gSub to_ ti rSetL)) ss F N R := fun σ G o D nx rt =>
  he.at o fun y G1 g1 ry => hx σ G1 (o.gr g1) _ fun x d' G2 F2 g2 rx ⟨e1, e2⟩ => by
    subst e1 e2
    refine hi.at (o.gr (g1.trans g2)) fun z G3 g3 rz => ?_
    obtain rfl := rx.m_inv
    obtain rfl := rz.int_inv
    have e := rep_vl ry hd
    subst e
    have hG : G3 p = none := (g3.dj p).resolve_right fun z => by rw [hF] at z; cases z
    refine ⟨p, vs, k, j, rfl, rfl, by rw [joi_r hG]; exact hF, hj, ?_⟩
    rw [joi_put hG]
    have g4 : Gr G3 G3 (upd F2 p (.lst (vs.set j (vl d)))) := .put g3.dj g3.gG g3.gF hF
    exact nx σ ss G3 _ (((g1.trans g2).trans g3).trans g4) (o.gr ((g1.trans g2).trans g3)).sg hn
/-- for i, j in enumerate(xs) -/
theorem RnF.forEnum {i j : Nat} (Iv : Nat → List (Option DV) → Hp → Prop) (h : EvF K te ss F fun d F1 => d = .l ds ∧ Iv 0 ss F1) (hs : ∀ k d ss' F', ds[k]? = some d → Iv k ss' F' → RnF K ts ((ss'.set i (some (.i (k : Nat)))).set j (some d)) F' (Iv (k + 1)) R) (hd : ∀ ss' F', Iv ds.length ss' F' → N ss' F') :
    RnF K (tFor (iEnum K (tCons te tNil)) (gTup K 2 (gCons (gName i) (gCons (gName j) gNil))) ts) ss F N R := fun σ G o D nx rt => h σ G o _ fun v d G1 F1 g r ⟨e, h0⟩ => by
  subst e
  obtain ⟨a, vs, rfl, ha, hr⟩ := r.l_inv
  refine ⟨a, vs, rfl, .of (joi_l ha), ?_⟩
  refine ⟨fun k m σ' H' => m = vs.length - k ∧ k ≤ vs.length ∧ ∃ ss' G' F', Gr G1 G' F' ∧ Sg K G' σ' ss' ∧ H' = joi G' F' ∧ Iv k ss' F', ⟨vs.length, by simp, Nat.zero_le _, ss, G1, F1, (o.gr g).refl, (o.gr g).sg, rfl, h0⟩, ?_⟩
  rintro k m σ' H' ⟨rfl, hk, ss', G', F', g2, s, rfl, p⟩
  have sq : SqL K (joi G' F') a vs := .of (joi_l (g2.sm _ _ ha))
  by_cases hlt : k < vs.length
  · refine .inr ⟨⟨vs, vs[k], sq, by simp [hlt]⟩, fun σ' H' => ∃ ss' G' F', Gr G1 G' F' ∧ Sg K G' σ' ss' ∧ H' = joi G' F' ∧ Iv (k + 1) ss' F', fun σ' H' p' => ⟨vs.length - (k + 1), by omega, rfl, hlt, p'⟩, ?_⟩
    rintro v H2 ⟨Tt, x, rfl, hT, rfl, hx⟩
    have hx := hx vs sq
    have hke : k < ds.length := by rw [← hr.1]; exact hlt
    have hd' : ds[k]? = some ds[k] := List.getElem?_eq_getElem hke
    have g3 : Gr G' (upd G' Tt (.tup [.int (k : Nat), x])) F' := .new g2.dj g2.gG g2.gF hT
    have rx := ((hr.2 k x _ hx hd').same g2.sm).same g3.sm
    rw [joi_new]
    refine ⟨Tt, _, rfl, .of (joi_l upd_same), rfl, .int (k : Nat), [x], rfl, x, [], rfl, rfl, ?_⟩
    exact hs k _ ss' F' hd' p _ _ ⟨((s.same g3.sm).set (.i _)).set rx, g3.dj, g3.gG, g3.gF⟩ _ (fun σ2 ss2 G2 F2 g4 s2 p2 => ⟨ss2, G2, F2, (g2.trans g3).trans g4, s2, rfl, p2⟩) (((rt.gr g).gr g2).gr g3)
  · have ek : k = vs.length := by omega
    subst ek
    refine .inl ⟨⟨vs, sq, Nat.le_refl _⟩, nx σ' ss' G' F' (g.trans g2) s (hd _ _ (by rw [← hr.1]; exact p))⟩
/-- legal operations, one behind the other -/
inductive Runs : St → List Int → St → Prop
  | nil (s : St) : Runs s [] s
  | cons {s s' : St} {op : Int} {ops : List Int} : Leg s op → Runs (aft s op) ops s' → Runs s (op :: ops) s'
theorem Runs.wf {s s' : St} {ops : List Int} (h : Runs s ops s') (hW : Wf s) : Wf s' ∧ s'.n = s.n := by
  induction h with
  | nil s => exact ⟨hW, rfl⟩
  | cons hL _ ih =>
    obtain ⟨h1, h2⟩ := ih (wf_aft hW hL)
    exact ⟨h1, h2⟩
theorem Runs.snoc {s s' : St} {op : Int} {ops : List Int} (h : Runs s ops s') (hL : Leg s' op) : Runs s (ops ++ [op]) (aft s' op) := by
  induction h with
  | nil s => exact .cons hL (.nil _)
  | cons h1 _ ih => exact .cons h1 (ih hL)
theorem Runs.app {s s1 s2 : St} {xs ys : List Int} (h : Runs s xs s1) (h2 : Runs s1 ys s2) : Runs s (xs ++ ys) s2 := by
  induction h with
  | nil s => exact h2
  | cons h1 _ ih => exact .cons h1 (ih h2)
theorem Runs.split {s s2 : St} : ∀ {xs ys : List Int} , Runs s (xs ++ ys) s2 → ∃ s1, Runs s xs s1 ∧ Runs s1 ys s2 := by
  intro xs
  induction xs generalizing s with
  | nil => exact fun h => ⟨s, .nil s, h⟩
  | cons x xs ih =>
    intro ys h
    cases h with
    | cons h1 h2 =>
      obtain ⟨s1, a, b⟩ := ih h2
      exact ⟨s1, .cons h1 a, b⟩
theorem Runs.det {s s1 s2 : St} {xs : List Int} (h : Runs s xs s1) (h2 : Runs s xs s2) : s1 = s2 := by
  induction h with
  | nil s => cases h2; rfl
  | cons _ _ ih =>
    cases h2 with
    | cons _ h => exact ih h
end
end Lay
end
section
set_option Elab.async false
set_option linter.all false
set_option autoImplicit false
set_option maxRecDepth 100000
set_option maxHeartbeats 4000000
namespace Lay
open PySem PySem.Spec PyProof.Rows L2


abbrev ListI (m : Int) (f : Int → Int) : HO := .lst ((tab m f).map V.int)
abbrev ListB (m : Int) (f : Int → Bool) : HO := .lst ((tab m f).map V.bl)
def ph_lkinit (KK : PySem.W.Frag) : Ph := fun ds F P => ∃ (a dx : Addr) (n : Int), ds = [.m a, .i n] ∧ F a = some (.ins (He.ga KK "Links") dx []) ∧ 0 ≤ n ∧ n ≤ 60 ∧ ∀ F', (∃ l r f, LkP KK F' a dx l r f (St0 n) ∧ F l = none ∧ F r = none ∧ F f = none) → (∀ b u, b ≠ a → F b = some u → F' b = some u) → P .n F'


/-- built and what calls it: a new object beside F -/
def ph_built (KK : PySem.W.Frag) : Ph := fun ds F P => ∃ s, Wf s ∧ ds = [.i s.n, .l (tab (s.n + 2) fun v => .i (s.L v)), .l (tab (s.n + 2) fun v => .i (s.R v)), .l (tab (s.n + 2) fun v => .b (s.O v))] ∧ ∀ a F', NewL KK F F' a s → P (.m a) F'
def ph_copy (KK : PySem.W.Frag) : Ph := fun ds F P => ∃ s, Wf s ∧ ds = [s.K] ∧ ∀ a F', NewL KK F F' a s → P (.m a) F'
/-- the heap behind apply -/
def aftF (F : Hp) (l r f : Addr) (s : St) (op : Int) : Hp := upd (upd (upd F r (ListI (s.n + 2) (aft s op).R)) l (ListI (s.n + 2) (aft s op).L)) f (ListB (s.n + 2) (aft s op).O)
def ph_applyat (KK : PySem.W.Frag) : Ph := fun ds F P => ∃ (a dx l r f : Addr) (s : St) (op ix : Int), ds = [.m a, .i op, .i ix] ∧ LkP KK F a dx l r f s ∧ Wf s ∧ Leg s op ∧ P .n (aftF F l r f s op)
def ph_apply (KK : PySem.W.Frag) : Ph := fun ds F P => ∃ (a dx l r f : Addr) (s : St) (op : Int), ds = [.m a, .i op] ∧ LkP KK F a dx l r f s ∧ Wf s ∧ Leg s op ∧ P .n (aftF F l r f s op)
def ph_replay (KK : PySem.W.Frag) : Ph := fun ds F P => ∃ (n : Int) (ops : List Int) (s : St), ds = [.i n, .l (ops.map DV.i)] ∧ 0 ≤ n ∧ n ≤ 60 ∧ Runs (St0 n) ops s ∧ ∀ a F', NewL KK F F' a s → P (.m a) F'
theorem LkP.aft {K : PySem.W.Frag} {F : Hp} {a dx l r f : Addr} {s : St} {op : Int} (h : LkP K F a dx l r f s) : LkP K (aftF F l r f s op) a dx l r f (aft s op) := by
  have al : a ≠ l := fun z => by have := h.oa; rw [z, h.ol] at this; cases this
  have ar : a ≠ r := fun z => by have := h.oa; rw [z, h.or] at this; cases this
  have af : a ≠ f := fun z => by have := h.oa; rw [z, h.of] at this; cases this
  refine ⟨?_, ?_, ?_, ?_, h.lr, h.lf, h.rf⟩
  · unfold aftF
    rw [upd_ne af, upd_ne al, upd_ne ar]
    exact h.oa
  · unfold aftF
    rw [upd_ne h.lf, upd_same] <;> rfl
  · unfold aftF
    rw [upd_ne h.rf, upd_ne (Ne.symm h.lr), upd_same] <;> rfl
  · unfold aftF
    rw [upd_same] <;> rfl
theorem aftF_ne {F : Hp} {l r f b : Addr} {s : St} {op : Int} (h1 : b ≠ l) (h2 : b ≠ r) (h3 : b ≠ f) : aftF F l r f s op b = F b := by
  unfold aftF
  rw [upd_ne h3, upd_ne h1, upd_ne h2]
theorem NewL.aft {K : PySem.W.Frag} {F F' : Hp} {a dx l r f : Addr} {s : St} {op : Int} (h : LkP K F' a dx l r f s) (ha : F a = none) (hl : F l = none) (hr : F r = none) (hf : F f = none) (sm : Same F F') : NewL K F (aftF F' l r f s op) a (Lay.aft s op) :=
  ⟨⟨dx, l, r, f, h.aft, ha, hl, hr, hf⟩, fun b o e => by
    rw [aftF_ne (ne_of_none e hl) (ne_of_none e hr) (ne_of_none e hf)]
    exact sm b o e⟩
theorem rg_L {n : Int} (h : 0 ≤ n) : rgV (-1) (n + 1) = (tab (n + 2) (St0 n).L).map V.int := by
  unfold rgV tab
  rw [List.map_map, show (n + 1 - -1).toNat = (n + 2).toNat by omega]
  refine List.map_congr_left fun k _ => ?_
  show V.int (-1 + (k : Int)) = V.int ((k : Int) - 1)
  rw [show -1 + (k : Int) = (k : Int) - 1 by omega]
theorem rg_R {n : Int} (h : 0 ≤ n) : rgV 1 (n + 3) = (tab (n + 2) (St0 n).R).map V.int := by
  unfold rgV tab
  rw [List.map_map, show (n + 3 - 1).toNat = (n + 2).toNat by omega]
  refine List.map_congr_left fun k _ => ?_
  show V.int (1 + (k : Int)) = V.int ((k : Int) + 1)
  rw [show 1 + (k : Int) = (k : Int) + 1 by omega]
theorem rg_O {n : Int} : List.replicate (n + 2).toNat (V.bl false) = (tab (n + 2) (St0 n).O).map V.bl := by
  unfold tab
  rw [List.map_map]
  refine (List.eq_replicate_iff.mpr ⟨by simp, fun b hb => ?_⟩).symm
  obtain ⟨k, _, rfl⟩ := List.mem_map.mp hb
  rfl
section
variable {w : World} {K : PySem.W.Frag} {mg : Str → Option Value} {base : Heap}

theorem ok_Links_init (T : TX K mg) : FnR PW w K mg base CX0 2 (mA "Links" "__init__" K) (PD K (ph_lkinit K)) := by
  obtain ⟨fd, F⟩ := f_Links_init T
  refine fnD_of F n_Links_init (F.bindsN fun _ _ _ _ _ _ us hl => match us, hl with | [_, _], _ => rfl) (fun ds F P ⟨_, _, _, e, _⟩ => by rw [e]; rfl) fun cdv A outer s H E hr => ⟨_, PSs.nox
    (pss_cons (ps_expr (pe_callR (ok_check_size T) (hr.mono (by decide)) rfl (g_check_size T) (k_check_size T) at0 (pa_cons (pv 1) pa_nil)))
      (pss_cons (ps_fld (pv 0) (pv 1) rfl)
      (pss_cons (ps_fld (pv 0) (pe_listRg rfl (by rfl) (b_list T) (prg_2 (by rfl) (b_range T) (pe_un un_neg pe_int) (pe_op op_add (pv 1) pe_int))) rfl)
      (pss_cons (ps_fld (pv 0) (pe_listRg rfl (by rfl) (b_list T) (prg_2 (by rfl) (b_range T) pe_int (pe_op op_add (pv 1) pe_int))) rfl)
      (pss_one (ps_fld (pv 0) (pe_op op_rep (pe_lst (pa_cons pe_bl pa_nil)) (pe_op op_add (pv 1) pe_int)) rfl)))))), fun ds F P h gF => ?_⟩
  obtain ⟨a, dx, n, rfl, hF, h0, h1, hP⟩ := h
  refine .seq (.drop (.evf (.call (.cons (.var rfl) .nil) ⟨n, h0, h1, rfl, rfl⟩) ?_))
  refine .seq (.fldSet (.evf (.var rfl) ⟨rfl, dx, _, hF, Nat.le_of_ble_eq_true rfl, ?_⟩) (.var rfl) (c_Links T) (n_Links_size T))
  have hn : ∀ p o, p ≠ a → upd F a o p = F p := fun p o h => upd_ne h
  refine .seq (.fldSet (.listRgF (.neg .int) (.add (.var rfl) .int) ⟨by omega, by omega, by omega, by omega, by omega⟩ fun l hl => ⟨rfl, dx, _, by rw [upd_ne (fun z => by rw [← z, upd_same] at hl; cases hl), upd_same], Nat.le_of_ble_eq_true rfl, ?_⟩) (.var rfl) (c_Links T) (n_Links_ulefts T))
  have la : l ≠ a := fun z => by rw [z, upd_same] at hl; cases hl
  have hl0 : F l = none := by rw [upd_ne la] at hl; exact hl
  refine .seq (.fldSet (.listRgF .int (.add (.var rfl) .int) ⟨by omega, by omega, by omega, by omega, by omega⟩ fun r hr => ⟨rfl, dx, _, by rw [upd_ne (fun z => by rw [← z, upd_same] at hr; cases hr), upd_same], Nat.le_of_ble_eq_true rfl, ?_⟩) (.var rfl) (c_Links T) (n_Links_urights T))
  have ra : r ≠ a := fun z => by rw [z, upd_same] at hr; cases hr
  rw [upd_ne ra] at hr
  have rl : r ≠ l := fun z => by rw [z, upd_same] at hr; cases hr
  rw [upd_ne rl, upd_ne ra] at hr
  refine .fldSet (.repF (d := .b false) (.lst (.cons .bl .nil) (by rw [sizeLine_eq]; show 1 ≤ 16777216; omega)) (.add (.var rfl) .int) rfl (by omega) (by omega) fun f hf => ⟨rfl, dx, _, by rw [upd_ne (fun z => by rw [← z, upd_same] at hf; cases hf), upd_same], Nat.le_of_ble_eq_true rfl, ?_⟩) (.var rfl) (c_Links T) (n_Links_uflags T)
  have fa : f ≠ a := fun z => by rw [z, upd_same] at hf; cases hf
  rw [upd_ne fa] at hf
  have fr : f ≠ r := fun z => by rw [z, upd_same] at hf; cases hf
  rw [upd_ne fr, upd_ne fa] at hf
  have fl : f ≠ l := fun z => by rw [z, upd_same] at hf; cases hf
  rw [upd_ne fl, upd_ne fa] at hf
  refine hP _ ⟨l, r, f, ⟨?_, ?_, ?_, ?_, Ne.symm rl, Ne.symm fl, Ne.symm fr⟩, hl0, hr, hf⟩ fun b u hb hu => ?_
  · rw [upd_same]
    rfl
  · rw [upd_ne la, upd_ne (Ne.symm fl), upd_ne la, upd_ne (Ne.symm rl), upd_ne la, upd_same, show (St0 n).n = n from rfl, ← rg_L h0]
  · rw [upd_ne ra, upd_ne (Ne.symm fr), upd_ne ra, upd_same, show (St0 n).n = n from rfl, ← rg_R h0]
  · rw [upd_ne fa, upd_same, show (St0 n).n = n from rfl, ← rg_O]
    rfl
  · rw [upd_ne hb, upd_ne (ne_of_none hu hf), upd_ne hb, upd_ne (ne_of_none hu hr), upd_ne hb, upd_ne (ne_of_none hu hl0), upd_ne hb]
    exact hu

/-- Links(n) -/
theorem EvF.lkNew {ta : TE} {ss : List (Option DV)} {F : Hp} {P : DV → Hp → Prop} {n : Int} {E : XK} (h : EvD K ta ss (.i n)) (h0 : 0 ≤ n) (h1 : n ≤ 60) (hp : ∀ a F', NewL K F F' a (St0 n) → P (.m a) F') : EvF K (StX.tMakeR (He.ga K "Links") (PD K (ph_lkinit K)) E (tCons ta tNil)) ss F P := by
  refine .make (.eva (.cons h .nil) fun x dx hx hd ne => ⟨x, dx, n, rfl, upd_same, h0, h1, fun F' ⟨l, r, f, L, hl, hr, hf⟩ hk => ⟨rfl, hp x F' ⟨⟨dx, l, r, f, L, hx, ?_, ?_, ?_⟩, fun b o e => ?_⟩⟩⟩)
  · by_cases z : l = x
    · rw [z]; exact hx
    · rw [upd_ne z] at hl
      by_cases z2 : l = dx
      · rw [z2]; exact hd
      · rw [upd_ne z2] at hl; exact hl
  · by_cases z : r = x
    · rw [z]; exact hx
    · rw [upd_ne z] at hr
      by_cases z2 : r = dx
      · rw [z2]; exact hd
      · rw [upd_ne z2] at hr; exact hr
  · by_cases z : f = x
    · rw [z]; exact hx
    · rw [upd_ne z] at hf
      by_cases z2 : f = dx
      · rw [z2]; exact hd
      · rw [upd_ne z2] at hf; exact hf
  · have ex := ne_of_none e hx
    refine hk b o ex ?_
    rw [upd_ne ex, upd_ne (ne_of_none e hd)]
    exact e

theorem ok_Links_built (T : TX K mg) : FnR PW w K mg base CX0 4 (sA "Links" "built" K) (PD K (ph_built K)) := by
  obtain ⟨fd, F⟩ := f_Links_built T
  refine fnD_of F n_Links_built (F.bindsN fun _ _ _ _ _ _ us hl => match us, hl with | [_, _, _, _], _ => rfl) (fun ds F P ⟨_, _, e, _⟩ => by rw [e]; rfl) fun cdv A outer s H E hr => ⟨_, PSs.nox
    (pss_cons (ps_set (i := 4) n_Links_built.nd rfl (by first | exact .inl rfl | exact .inr rfl) (StX.pe_makeR (mk_Links T) (ok_Links_init T) (hr.mono (by decide)) rfl (g_Links T) pass0 (pa_cons (pv 0) pa_nil)))
      (pss_cons (ps_fld (pv 4) (pe_callTy call_list_of (by rfl) (b_list T) boot_list' (pa_cons (pv 1) pa_nil)) rfl)
      (pss_cons (ps_fld (pv 4) (pe_callTy call_list_of (by rfl) (b_list T) boot_list' (pa_cons (pv 2) pa_nil)) rfl)
      (pss_cons (ps_fld (pv 4) (pe_callTy call_list_of (by rfl) (b_list T) boot_list' (pa_cons (pv 3) pa_nil)) rfl)
      (pss_one (ps_ret (pv 4))))))), fun ds F P h gF => ?_⟩
  obtain ⟨s, hW, rfl, hP⟩ := h
  refine .seq (.asg (.lkNew (.var rfl) hW.n0 hW.n1 fun a F1 ⟨⟨dx, l, r, f, L, na, nl, nr, nf⟩, sm⟩ => ?_))
  have al : a ≠ l := fun z => by have := L.oa; rw [z, L.ol] at this; cases this
  refine .seq (.fldSet (.listF (.var rfl) fun l2 G vs hl2 hr => ⟨rfl, dx, _, by rw [upd_ne (ne_of_none L.oa hl2)]; exact L.oa, Nat.le_of_ble_eq_true rfl, ?_⟩) (.var rfl) (c_Links T) (n_Links_ulefts T))
  have e1 := hr.tabI
  subst e1
  have a2 := ne_of_none L.oa hl2
  refine .seq (.fldSet (.listF (.var rfl) fun r2 G vs hr2 hr => ⟨rfl, dx, _, by rw [upd_ne (fun z => by rw [← z, upd_same] at hr2; cases hr2), upd_same], Nat.le_of_ble_eq_true rfl, ?_⟩) (.var rfl) (c_Links T) (n_Links_urights T))
  have e1 := hr.tabI
  subst e1
  have ra : r2 ≠ a := fun z => by rw [z, upd_same] at hr2; cases hr2
  rw [upd_ne ra] at hr2
  have rl : r2 ≠ l2 := fun z => by rw [z, upd_same] at hr2; cases hr2
  rw [upd_ne rl] at hr2
  refine .seq (.fldSet (.listF (.var rfl) fun f2 G vs hf2 hr => ⟨rfl, dx, _, by rw [upd_ne (fun z => by rw [← z, upd_same] at hf2; cases hf2), upd_same], Nat.le_of_ble_eq_true rfl, ?_⟩) (.var rfl) (c_Links T) (n_Links_uflags T))
  have e1 := hr.tabB
  subst e1
  have fa : f2 ≠ a := fun z => by rw [z, upd_same] at hf2; cases hf2
  rw [upd_ne fa] at hf2
  have fr : f2 ≠ r2 := fun z => by rw [z, upd_same] at hf2; cases hf2
  rw [upd_ne fr, upd_ne fa] at hf2
  have fl : f2 ≠ l2 := fun z => by rw [z, upd_same] at hf2; cases hf2
  rw [upd_ne fl] at hf2
  have out : ∀ p, F1 p = none → F p = none := fun p h => by
    cases q : F p with
    | none => rfl
    | some o => rw [sm p o q] at h; cases h
  refine .ret (.evf (.var rfl) (hP a _ ⟨⟨dx, l2, r2, f2, ⟨?_, ?_, ?_, ?_, Ne.symm rl, Ne.symm fl, Ne.symm fr⟩, na, out _ hl2, out _ hr2, out _ hf2⟩, fun b u hu => ?_⟩))
  · rw [upd_same]
    rfl
  · rw [upd_ne (Ne.symm a2), upd_ne (Ne.symm fl), upd_ne (Ne.symm a2), upd_ne (Ne.symm rl), upd_ne (Ne.symm a2), upd_same]
  · rw [upd_ne ra, upd_ne (Ne.symm fr), upd_ne ra, upd_same]
  · rw [upd_ne fa, upd_same]
  · have hb := ne_of_none hu na
    rw [upd_ne hb, upd_ne (ne_of_none hu (out _ hf2)), upd_ne hb, upd_ne (ne_of_none hu (out _ hr2)), upd_ne hb, upd_ne (ne_of_none hu (out _ hl2))]
    exact sm b u hu

theorem ok_Links_copy (T : TX K mg) : FnR PW w K mg base CX0 5 (mA "Links" "copy" K) (PD K (ph_copy K)) := by
  obtain ⟨fd, F⟩ := f_Links_copy T
  refine fnD_of F n_Links_copy (F.bindsN fun _ _ _ _ _ _ us hl => match us, hl with | [_], _ => rfl) (fun ds F P ⟨_, _, e, _⟩ => by rw [e]; rfl) fun cdv A outer s H E hr => ⟨_, PSs.nox
    (pss_one (ps_ret (pe_stat (s_Links_built T) (ok_Links_built T) (hr.mono (by decide)) rfl (g_Links T) at0 (pa_cons (pe_fld (pv 0) rfl) (pa_cons (pe_fld (pv 0) rfl) (pa_cons (pe_fld (pv 0) rfl) (pa_cons (pe_fld (pv 0) rfl) pa_nil))))))), fun ds F P h gF => ?_⟩
  obtain ⟨s, hW, rfl, hP⟩ := h
  exact .ret (.call (.eva (.cons (.lkSize (c_Links T) (n_Links_size T) (.var rfl)) (.cons (.lkL (c_Links T) (n_Links_ulefts T) (.var rfl)) (.cons (.lkR (c_Links T) (n_Links_urights T) (.var rfl)) (.cons (.lkO (c_Links T) (n_Links_uflags T) (.var rfl)) .nil)))) ⟨s, hW, rfl, hP⟩))

theorem ok_Links_apply_at (T : TX K mg) : FnR PW w K mg base CX0 11 (mA "Links" "apply_at" K) (PD K (ph_applyat K)) := by
  obtain ⟨fd, F⟩ := f_Links_apply_at T
  refine fnD_of F n_Links_apply_at (F.bindsN fun _ _ _ _ _ _ us hl => match us, hl with | [_, _, _], _ => rfl) (fun ds F P ⟨_, _, _, _, _, _, _, _, e, _⟩ => by rw [e]; rfl) fun cdv A outer s H E hr => ⟨_, PSs.nox
    (pss_cons (ps_expr (pe_callR (ok_check_operation T) (hr.mono (by decide)) rfl (g_check_operation T) (k_check_operation T) at0 (pa_cons (pe_fld (pv 0) rfl) (pa_cons (pv 1) (pa_cons (pv 2) pa_nil)))))
      (pss_cons (ps_set (i := 3) n_Links_apply_at.nd rfl (by first | exact .inl rfl | exact .inr rfl) (pe_callB call_abs (by rfl) (b_abs T) boot_abs' (pa_cons (pv 1) pa_nil)))
      (pss_cons (ps_set (i := 4) n_Links_apply_at.nd rfl (by first | exact .inl rfl | exact .inr rfl) (pe_cmpR op_lt (pv 1) pe_int (nomark _)))
      (pss_cons (ps_if (pt_cmpR op_eq (pe_ix ix_list (pe_fld (pv 0) rfl) (pv 3) (fun _ _ => rfl)) (pv 4) (nomark _)) (pss_one ps_never) pss_nil)
      (pss_cons (ps_set (i := 5) n_Links_apply_at.nd rfl (by first | exact .inl rfl | exact .inr rfl) (pe_ix ix_list (pe_fld (pv 0) rfl) (pv 3) (fun _ _ => rfl)))
      (pss_cons (ps_set (i := 6) n_Links_apply_at.nd rfl (by first | exact .inl rfl | exact .inr rfl) (pe_ix ix_list (pe_fld (pv 0) rfl) (pv 3) (fun _ _ => rfl)))
      (pss_cons (ps_asg (pe_ifExp (pt_val (pv 4)) (pv 6) (pv 3)) (pg_sub (pe_fld (pv 0) rfl) (pv 5) set_list))
      (pss_cons (ps_asg (pe_ifExp (pt_val (pv 4)) (pv 5) (pv 3)) (pg_sub (pe_fld (pv 0) rfl) (pv 6) set_list))
      (pss_one (ps_asg (pv 4) (pg_sub (pe_fld (pv 0) rfl) (pv 3) set_list))))))))))), fun ds F P h gF => ?_⟩
  obtain ⟨a, dx, l, r, f, s, op, ix, rfl, hL, hW, hG, hP⟩ := h
  have rg := rng hW hG
  obtain ⟨l1, l2, a0, a1, b0, b1⟩ := id rg
  have n0 := hW.n0
  refine .seq (.drop (.call (EvA.see (i := 0) (ds := [.i s.n, .i op, .i ix]) rfl (LkP.rep hL) (.cons (.lkSize (c_Links T) (n_Links_size T) (.var rfl)) (.cons (.var rfl) (.cons (.var rfl) .nil))) rfl ⟨.n, ⟨s.n, op, ix, l1, l2, rfl, rfl⟩, ?_⟩)))
  refine .seq (.asg (.evf (.abs (.var rfl)) ?_))
  refine .seq (.asg (.evf (.lt (.var rfl) .int) ?_))
  have hO : s.O (iabs op) ≠ decide (op < 0) := fun z => by
    have := leg_neg hG
    cases q : s.O (iabs op) <;> simp_all
  refine .seq (.ifS (.see (i := 0) (c := false) rfl (LkP.rep hL) (by
    have e : false = decide (s.O (iabs op) = decide (op < 0)) := (decide_eq_false hO).symm
    rw [e]
    exact .test (.eqB (.ixL (.lkO (c_Links T) (n_Links_uflags T) (.var rfl)) (.var rfl) (atI_tab (by omega) (by omega))) (.var rfl))) (.nil ?_)))
  refine .seq (.asg (EvF.see (i := 0) rfl (LkP.rep hL) (.ixL (.lkL (c_Links T) (n_Links_ulefts T) (.var rfl)) (.var rfl) (atI_tab (by omega) (by omega))) rfl ?_))
  refine .seq (.asg (EvF.see (i := 0) rfl (LkP.rep hL) (.ixL (.lkR (c_Links T) (n_Links_urights T) (.var rfl)) (.var rfl) (atI_tab (by omega) (by omega))) rfl ?_))
  have c1 := c_Links T
  refine .seq (.setFF (p := r) (d := .i (if op < 0 then s.R (iabs op) else iabs op)) (by
    have z := EvD.ite (K := K) (ss := [some (.m a), some (.i op), some (.i ix), some (.i (iabs op)), some (.b (decide (op < 0))), some (.i (s.L (iabs op))), some (.i (s.R (iabs op)))]) (c := decide (op < 0)) (tt := tB (tVar 4)) (ta := tVar 6) (tb := tVar 3) (.val (.var rfl)) (fun _ => .var rfl) (fun _ => .var rfl)
    have e : (if decide (op < 0) = true then DV.i (s.R (iabs op)) else DV.i (iabs op)) = DV.i (if op < 0 then s.R (iabs op) else iabs op) := by by_cases q : op < 0 <;> simp [q]
    rw [e] at z
    exact z) (.fldF (v := .ref r) (.var rfl) hL.oa c1 (n_Links_urights T) rfl True.intro ⟨rfl, rfl⟩) (.var rfl) hL.or (ixN_tab a0 (by rw [List.length_map, tab_length]; omega)) rfl ?_)
  have rl := Ne.symm hL.lr
  have al : a ≠ l := fun z => by have := hL.oa; rw [z, hL.ol] at this; cases this
  have ar : a ≠ r := fun z => by have := hL.oa; rw [z, hL.or] at this; cases this
  have af : a ≠ f := fun z => by have := hL.oa; rw [z, hL.of] at this; cases this
  refine .seq (.setFF (p := l) (d := .i (if op < 0 then s.L (iabs op) else iabs op)) (by
    have z := EvD.ite (K := K) (ss := [some (.m a), some (.i op), some (.i ix), some (.i (iabs op)), some (.b (decide (op < 0))), some (.i (s.L (iabs op))), some (.i (s.R (iabs op)))]) (c := decide (op < 0)) (tt := tB (tVar 4)) (ta := tVar 5) (tb := tVar 3) (.val (.var rfl)) (fun _ => .var rfl) (fun _ => .var rfl)
    have e : (if decide (op < 0) = true then DV.i (s.L (iabs op)) else DV.i (iabs op)) = DV.i (if op < 0 then s.L (iabs op) else iabs op) := by by_cases q : op < 0 <;> simp [q]
    rw [e] at z
    exact z) (.fldF (v := .ref l) (.var rfl) (by rw [upd_ne ar]; exact hL.oa) c1 (n_Links_ulefts T) rfl True.intro ⟨rfl, rfl⟩) (.var rfl) (by rw [upd_ne hL.lr]; exact hL.ol) (ixN_tab (by omega) (by rw [List.length_map, tab_length]; omega)) rfl ?_)
  refine .setFF (p := f) (d := .b (decide (op < 0))) (.var rfl) (.fldF (v := .ref f) (.var rfl) (by rw [upd_ne al, upd_ne ar]; exact hL.oa) c1 (n_Links_uflags T) rfl True.intro ⟨rfl, rfl⟩) (.var rfl) (by rw [upd_ne (Ne.symm hL.lf), upd_ne (Ne.symm hL.rf)]; exact hL.of) (ixN_tab (by omega) (by rw [List.length_map, tab_length]; omega)) rfl ?_
  have eF : upd (upd (upd F r (.lst (((tab (s.n + 2) s.R).map V.int).set (s.L (iabs op)).toNat (vl (.i (if op < 0 then s.R (iabs op) else iabs op)))))) l (.lst (((tab (s.n + 2) s.L).map V.int).set (s.R (iabs op)).toNat (vl (.i (if op < 0 then s.L (iabs op) else iabs op)))))) f (.lst (((tab (s.n + 2) s.O).map V.bl).set (iabs op).toNat (vl (.b (decide (op < 0)))))) = aftF F l r f s op := by
    unfold aftF
    have h1 : ((tab (s.n + 2) s.R).map V.int).set (s.L (iabs op)).toNat (vl (.i (if op < 0 then s.R (iabs op) else iabs op))) = (tab (s.n + 2) (aft s op).R).map V.int := by
      rw [tab_map, tab_map, tab_set a0]
      refine tab_congr fun v _ _ => ?_
      show (if v = s.L (iabs op) then V.int _ else V.int (s.R v)) = V.int (if v = s.L (iabs op) then _ else s.R v)
      split <;> rfl
    have h2 : ((tab (s.n + 2) s.L).map V.int).set (s.R (iabs op)).toNat (vl (.i (if op < 0 then s.L (iabs op) else iabs op))) = (tab (s.n + 2) (aft s op).L).map V.int := by
      rw [tab_map, tab_map, tab_set (by omega)]
      refine tab_congr fun v _ _ => ?_
      show (if v = s.R (iabs op) then V.int _ else V.int (s.L v)) = V.int (if v = s.R (iabs op) then _ else s.L v)
      split <;> rfl
    have h3 : ((tab (s.n + 2) s.O).map V.bl).set (iabs op).toNat (vl (.b (decide (op < 0)))) = (tab (s.n + 2) (aft s op).O).map V.bl := by
      rw [tab_map, tab_map, tab_set (by omega)]
      refine tab_congr fun v _ _ => ?_
      show (if v = iabs op then V.bl _ else V.bl (s.O v)) = V.bl (if v = iabs op then _ else s.O v)
      split <;> rfl
    rw [h1, h2, h3]
  rw [eF]
  exact hP

theorem ok_Links_apply (T : TX K mg) : FnR PW w K mg base CX0 12 (mA "Links" "apply" K) (PD K (ph_apply K)) := by
  obtain ⟨fd, F⟩ := f_Links_apply T
  refine fnD_of F n_Links_apply (F.bindsN fun _ _ _ _ _ _ us hl => match us, hl with | [_, _], _ => rfl) (fun ds F P ⟨_, _, _, _, _, _, _, e, _⟩ => by rw [e]; rfl) fun cdv A outer s H E hr => ⟨_, PSs.nox
    (pss_one (ps_expr (pe_methE (pv 0) (c_Links T) (m_Links_apply_at T) (ok_Links_apply_at T) (hr.mono (by decide)) at0 (pa_cons (pv 1) (pa_cons pe_int pa_nil))))), fun ds F P h gF => ?_⟩
  obtain ⟨a, dx, l, r, f, s, op, rfl, hL, hW, hG, hP⟩ := h
  exact .drop (.meth (.var rfl) hL.oa rfl (.eva (.cons (.var rfl) (.cons .int .nil)) ⟨a, dx, l, r, f, s, op, 0, rfl, hL, hW, hG, hP⟩))

theorem ok_replay (T : TX K mg) : FnR PW w K mg base CX0 12 (gA "replay" K) (PD K (ph_replay K)) := by
  obtain ⟨fd, F⟩ := f_replay T
  refine fnD_of F n_replay (F.bindsN fun _ _ _ _ _ _ us hl => match us, hl with | [_, _], _ => rfl) (fun ds F P ⟨_, _, _, e, _⟩ => by rw [e]; rfl) fun cdv A outer s H E hr => ⟨_, PSs.nox
    (pss_cons (ps_set (i := 2) n_replay.nd rfl (by first | exact .inl rfl | exact .inr rfl) (StX.pe_makeR (mk_Links T) (ok_Links_init T) (hr.mono (by decide)) rfl (g_Links T) pass0 (pa_cons (pv 0) pa_nil)))
      (pss_cons (ps_for PassesOwn.never rfl (pi_enum (by rfl) (b_enumerate T) (pa_cons (pv 1) pa_nil)) (by exact pg_tup rfl (pgs_cons (pg_name (i := 3) n_replay.nd rfl (by first | exact .inl rfl | exact .inr rfl)) (pgs_cons (pg_name (i := 4) n_replay.nd rfl (by first | exact .inl rfl | exact .inr rfl)) pgs_nil))) (pss_one (ps_expr (pe_methE (pv 2) (c_Links T) (m_Links_apply_at T) (ok_Links_apply_at T) (hr.mono (by decide)) at0 (pa_cons (pv 4) (pa_cons (pv 3) pa_nil))))))
      (pss_one (ps_ret (pv 2))))), fun ds F P h gF => ?_⟩
  obtain ⟨n, ops, s, rfl, h0, h1, hR, hP⟩ := h
  refine .seq (.asg (.lkNew (.var rfl) h0 h1 fun a F1 N1 => ?_))
  refine .seq (RnF.forEnum (ds := ops.map DV.i) (fun k ss' F' => (∃ o1 o2, ss' = [some (.i n), some (.l (ops.map DV.i)), some (.m a), o1, o2]) ∧ ∃ s1, Runs (St0 n) (ops.take k) s1 ∧ Runs s1 (ops.drop k) s ∧ NewL K F F' a s1)
    (.evf (.var rfl) ⟨rfl, ⟨none, none, rfl⟩, St0 n, .nil _, hR, N1⟩) (fun k d ss' F' hk ⟨⟨o1, o2, e1⟩, s1, r1, r2, N2⟩ => ?_) fun ss' F' ⟨⟨o1, o2, e1⟩, s1, r1, r2, N2⟩ => ?_)
  · subst e1
    rw [List.getElem?_map] at hk
    cases hg : ops[k]? with
    | none => rw [hg] at hk; cases hk
    | some op =>
      rw [hg] at hk
      cases hk
      have tk : ops.take (k + 1) = ops.take k ++ [op] := by rw [List.take_succ, hg]; rfl
      have dk : ops.drop k = op :: ops.drop (k + 1) := by
        rw [List.drop_eq_getElem_cons (List.getElem?_eq_some_iff.mp hg).1]
        congr 1
        exact (List.getElem?_eq_some_iff.mp hg).2
      rw [dk] at r2
      cases r2 with
      | cons hL r2 =>
        obtain ⟨⟨dx, l, r, f, L, na, nl, nr, nf⟩, sm⟩ := N2
        have hW1 := (r1.wf (wf0 h0 h1)).1
        refine .drop (.meth (.var rfl) L.oa rfl (.eva (.cons (.var rfl) (.cons (.var rfl) .nil)) ⟨a, dx, l, r, f, s1, op, _, rfl, L, hW1, hL, ⟨_, _, rfl⟩, aft s1 op, ?_, r2, .aft L na nl nr nf sm⟩))
        rw [tk]
        exact r1.snoc hL
  · subst e1
    rw [List.length_map] at r2
    rw [List.drop_length] at r2
    cases r2
    exact .ret (.evf (.var rfl) (hP a F' N2))

end
end Lay
end
section
set_option Elab.async false
set_option linter.all false
set_option autoImplicit false
set_option maxRecDepth 100000
set_option maxHeartbeats 4000000
namespace Lay
open PySem PySem.Spec PyProof.Rows L2


def ph_parts (ds : List DV) (d : DV) : Prop := ∃ s, Wf s ∧ ds = [s.K] ∧ d = .l ((dumpP s).map DV.s)
def ph_dump (ds : List DV) (d : DV) : Prop := ∃ s, Wf s ∧ ds = [s.K] ∧ d = .s (dumpT s)
theorem cutE {m : Int} {f : Int → DV} (h : 0 ≤ m) : cutD (tab (m + 1) f) none (some (-1)) = tab m f := by
  refine List.ext_getElem? fun i => ?_
  have e1 : HT.sIx (tab (m + 1) f).length 0 none = 0 := rfl
  have e2 : HT.sIx (tab (m + 1) f).length (tab (m + 1) f).length (some (-1)) = m.toNat := by
    rw [tab_length]
    unfold HT.sIx
    simp
    omega
  unfold cutD
  rw [e1, e2, List.drop_zero, Nat.sub_zero, List.getElem?_take]
  by_cases hi : i < m.toNat
  · rw [if_pos hi, tab_get (by omega), tab_get hi]
  · rw [if_neg hi, List.getElem?_eq_none (by rw [tab_length]; omega)]
theorem EvD.lkM0 {K : PySem.W.Frag} {ta : TE} {ss : List (Option DV)} {d : DV} {φ : List DV → DV → Prop} {E : L2.St → XK} {n : Int} {fR fL : Int → Int} {fO : Int → Bool} {m : Str} (h : EvD K ta ss (.lk n fR fL fO)) (p : φ [.lk n fR fL fO] d) (hm : m ≠ "size" ∧ m ≠ "_lefts" ∧ m ≠ "_rights" ∧ m ≠ "_flags" := by decide +kernel) : EvD K (tMethE (He.ga K "Links") m (PD K (Pu φ)) E ta tNil) ss d := EvD.lkM h .nil p hm
section
variable {w : World} {K : PySem.W.Frag} {mg : Str → Option Value} {base : Heap}
theorem st_bounds {s : St} (hW : Wf s) : (∀ x ∈ tab (s.n + 1) s.R, 0 ≤ x ∧ x < 64) ∧ (∀ x ∈ tab (s.n + 1) (fun v => s.L (v + 1)), 0 ≤ x ∧ x < 64) ∧ (∀ x ∈ outL s, 0 ≤ x ∧ x < 64) := by
  have n0 := hW.n0
  have n1 := hW.n1
  refine ⟨fun x hx => ?_, fun x hx => ?_, fun x hx => ?_⟩
  · obtain ⟨v, v0, v1, rfl⟩ := tab_mem hx
    have := hW.r0 v v0 (by omega)
    have := hW.r1 v v0 (by omega)
    omega
  · obtain ⟨v, v0, v1, rfl⟩ := tab_mem hx
    have := hW.l0 (v + 1) (by omega) (by omega)
    have := hW.l1 (v + 1) (by omega) (by omega)
    omega
  · have := mem_filI.mp hx
    omega
theorem tab_in {m v : Int} {f : Int → Int} (h0 : 0 ≤ v) (h1 : v < m) : f v ∈ tab m f := by
  unfold tab
  exact List.mem_map.mpr ⟨v.toNat, List.mem_range.mpr (by omega), by rw [show ((v.toNat : Nat) : Int) = v by omega]⟩

theorem ok_Links_udump_parts (T : TX K mg) : FnR PW w K mg base CX0 1 (mA "Links" "_dump_parts" K) (PD K (Pu ph_parts)) := by
  obtain ⟨fd, F⟩ := f_Links_udump_parts T
  refine fnD_of F n_Links_udump_parts (F.bindsN fun _ _ _ _ _ _ us hl => match us, hl with | [_], _ => rfl) (fun ds F P ⟨d, ⟨_, _, e, _⟩, _⟩ => by rw [e]; rfl) fun cdv A outer s H E hr => ⟨_, PSs.nox
    (pss_cons (ps_setLc (i := 1) (own := [("link", 4)]) (g := gName 4) rfl n_Links_udump_parts.nd rfl rfl (sw_true rfl rfl rfl (by decide +kernel)) (pi_list (pe_slice sl_list (pe_fld (pv 0) rfl) po_none (po_some (pe_un un_neg pe_int)))) (blkOk_by (own := [("link", 4)]) (N := ["self", "rights", "lefts", "outs", "link", "node"]) (sc := defScope st_Links_udump_parts) (by decide +kernel)) (fun _ _ _ _ _ => pg_name (i := 4) n_Links_udump_parts.nd rfl (Or.inl rfl)) (fun _ _ _ _ _ => pts_nil) (fun _ _ _ _ _ => (pe_callTy call_str_int (by rfl) (b_str T) boot_str' (pa_cons (pv 4) pa_nil))))
      (pss_cons (ps_setLc (i := 2) (own := [("link", 4)]) (g := gName 4) rfl n_Links_udump_parts.nd rfl rfl (sw_true rfl rfl rfl (by decide +kernel)) (pi_list (pe_slice sl_list (pe_fld (pv 0) rfl) (po_some pe_int) po_none)) (blkOk_by (own := [("link", 4)]) (N := ["self", "rights", "lefts", "outs", "link", "node"]) (sc := defScope st_Links_udump_parts) (by decide +kernel)) (fun _ _ _ _ _ => pg_name (i := 4) n_Links_udump_parts.nd rfl (Or.inl rfl)) (fun _ _ _ _ _ => pts_nil) (fun _ _ _ _ _ => (pe_callTy call_str_int (by rfl) (b_str T) boot_str' (pa_cons (pv 4) pa_nil))))
      (pss_cons (ps_setLc (i := 3) (own := [("node", 5)]) (g := gName 5) rfl n_Links_udump_parts.nd rfl rfl (sw_true rfl rfl rfl (by decide +kernel)) (pi_range2 (by rfl) (b_range T) (pa_cons pe_int (pa_cons (pe_op op_add (pe_fld (pv 0) rfl) pe_int) pa_nil))) (blkOk_by (own := [("node", 5)]) (N := ["self", "rights", "lefts", "outs", "link", "node"]) (sc := defScope st_Links_udump_parts) (by decide +kernel)) (fun _ _ _ _ _ => pg_name (i := 5) n_Links_udump_parts.nd rfl (Or.inl rfl)) (fun _ _ _ _ _ => pts_one (pt_val (pe_ix (ixl K) (fldr K (pv 0) rfl) (pv 5) (fun _ _ => rfl)))) (fun _ _ _ _ _ => (pe_callTy call_str_int (by rfl) (b_str T) boot_str' (pa_cons (pv 5) pa_nil))))
      (pss_one (ps_ret (pe_lst (pa_cons (pe_join pe_str (pv 1)) (pa_cons (pe_join pe_str (pv 2)) (pa_cons (pe_ifExp (pt_cmpR op_gt (pe_callB call_len_seq (by rfl) (b_len T) boot_len' (pa_cons (pv 3) pa_nil)) pe_int (nomark _)) (pe_join pe_str (pv 3)) pe_str) pa_nil))))))))), fun ds F P h gF => ?_⟩
  obtain ⟨d, ⟨s, hW, rfl, rfl⟩, hP⟩ := h
  have n0 := hW.n0
  have n1 := hW.n1
  obtain ⟨hR, hLf, hO⟩ := st_bounds hW
  have lR : (tab (s.n + 1) s.R).length ≤ 100 := by rw [tab_length]; omega
  have lL : (tab (s.n + 1) fun v => s.L (v + 1)).length ≤ 100 := by rw [tab_length]; omega
  have lO : (outL s).length ≤ 100 := by
    have := filI_len (lo := 1) (hi := s.n + 1) (p := s.O)
    unfold outL
    omega
  have eR : ((tab (s.n + 1) s.R).map strI).map DV.s = (tab (s.n + 1) fun v => DV.i (s.R v)).map strD := by
    rw [List.map_map, tab_map, tab_map]
    rfl
  have eL : ((tab (s.n + 1) fun v => s.L (v + 1)).map strI).map DV.s = (tab (s.n + 1) fun v => DV.i (s.L (v + 1))).map strD := by
    rw [List.map_map, tab_map, tab_map]
    rfl
  have eO : ((outL s).map strI).map DV.s = fil 1 (s.n + 1) s.O fun v => DV.s (strI v) := by
    rw [List.map_map, fil_i]
    rfl
  refine .seq (.asg (.evf (d := .l (((tab (s.n + 1) s.R).map strI).map DV.s)) (by
    rw [eR]
    have ec := cutE (m := s.n + 1) (f := fun v => DV.i (s.R v)) (by omega)
    rw [show s.n + 1 + 1 = s.n + 2 by omega] at ec
    rw [← ec]
    refine .lcLY (.slice (.lkR (c_Links T) (n_Links_urights T) (.var rfl)) .no (.some (.neg .int))) (fun d hd => ?_) (by rw [ec, tab_length]; omega)
    rw [ec] at hd
    obtain ⟨v, v0, v1, rfl⟩ := tab_mem hd
    have z := hR (s.R v) (tab_in v0 v1)
    exact .strOf (.var rfl) (log2_le z.1 z.2)) ?_))
  refine .seq (.asg (.evf (d := .l (((tab (s.n + 1) fun v => s.L (v + 1)).map strI).map DV.s)) (by
    rw [eL]
    have ec := cut1 (m := s.n + 1) (f := fun v => DV.i (s.L v)) (by omega)
    rw [show s.n + 1 + 1 = s.n + 2 by omega] at ec
    rw [← ec]
    refine .lcLY (.slice (.lkL (c_Links T) (n_Links_ulefts T) (.var rfl)) (.some .int) .no) (fun d hd => ?_) (by rw [ec, tab_length]; omega)
    rw [ec] at hd
    obtain ⟨v, v0, v1, rfl⟩ := tab_mem hd
    have z := hLf (s.L (v + 1)) (tab_in (f := fun v => s.L (v + 1)) v0 v1)
    exact .strOf (.var rfl) (log2_le z.1 z.2)) ?_))
  refine .seq (.asg (.evf (d := .l (((outL s).map strI).map DV.s)) (by
    rw [eO]
    exact .lcR2 .int (.add (.lkSize (c_Links T) (n_Links_size T) (.var rfl)) .int) (fun v v0 v1 => .val (.ixL (.lkO (c_Links T) (n_Links_uflags T) (.var rfl)) (.var rfl) (atI_tab (by omega) (by omega)))) (fun v v0 v1 _ => .strOf (.var rfl) (log2_le (by omega) (by omega))) (by omega) (by omega) (by omega) (by omega)) ?_))
  have el : ((((outL s).map strI).map DV.s).length : Int) = ((outL s).length : Int) := by rw [List.length_map, List.length_map]
  refine .ret (.evf (.lst (ds := (dumpP s).map DV.s) (.cons (.join (ys := (tab (s.n + 1) s.R).map strI) .str (.var rfl) (join_bound hR lR (by decide))) (.cons (.join (ys := (tab (s.n + 1) fun v => s.L (v + 1)).map strI) .str (.var rfl) (join_bound hLf lL (by decide))) (.cons (d := .s (thirdT s)) (by
    have z := EvD.ite (K := K) (ss := [some s.K, some (.l (((tab (s.n + 1) s.R).map strI).map DV.s)), some (.l (((tab (s.n + 1) fun v => s.L (v + 1)).map strI).map DV.s)), some (.l (((outL s).map strI).map DV.s)), none, none]) (c := decide (0 < ((outL s).length : Int)))
      (tt := tTest (tOp (L2.rI0 fun i j => .bl (decide (j < i))) (tCB (rLenS K) (tCons (tVar 3) tNil)) (tC (.int 0)))) (ta := tM1 (rJoinS K) (tC (.str " ")) (tVar 3)) (tb := tC (.str "none")) (by rw [← el]; exact .test (.gt (.len (.var rfl)) .int)) (fun _ => .join (ys := (outL s).map strI) .str (.var rfl) (join_bound hO lO (by decide))) (fun _ => .str)
    have e : (if decide (0 < ((outL s).length : Int)) = true then DV.s (Str.join " " ((outL s).map strI)) else DV.s "none") = DV.s (thirdT s) := by
      unfold thirdT
      cases q : outL s with
      | nil => rfl
      | cons a b =>
        rw [if_pos (by simp)]
        rfl
    rw [e] at z
    exact z) .nil))) (by rw [sizeLine_eq]; show 3 ≤ 16777216; omega)) hP)

theorem ok_Links_dump (T : TX K mg) : FnR PW w K mg base CX0 2 (mA "Links" "dump" K) (PD K (Pu ph_dump)) := by
  obtain ⟨fd, F⟩ := f_Links_dump T
  refine fnD_of F n_Links_dump (F.bindsN fun _ _ _ _ _ _ us hl => match us, hl with | [_], _ => rfl) (fun ds F P ⟨d, ⟨_, _, e, _⟩, _⟩ => by rw [e]; rfl) fun cdv A outer s H E hr => ⟨_, PSs.nox
    (pss_one (ps_ret (pe_join pe_str (pe_methE0 (pv 0) (c_Links T) (m_Links_udump_parts T) (ok_Links_udump_parts T) (hr.mono (by decide)) at0)))), fun ds F P h gF => ?_⟩
  obtain ⟨d, ⟨s, hW, rfl, rfl⟩, hP⟩ := h
  have n0 := hW.n0
  have n1 := hW.n1
  obtain ⟨hR, hLf, hO⟩ := st_bounds hW
  have lR : (tab (s.n + 1) s.R).length ≤ 100 := by rw [tab_length]; omega
  have lL : (tab (s.n + 1) fun v => s.L (v + 1)).length ≤ 100 := by rw [tab_length]; omega
  have lO : (outL s).length ≤ 100 := by
    have := filI_len (lo := 1) (hi := s.n + 1) (p := s.O)
    unfold outL
    omega
  have jl : ∀ xs : List Int, (∀ x ∈ xs, 0 ≤ x ∧ x < 64) → xs.length ≤ 100 → (Str.join " " (xs.map strI)).length ≤ 400 := fun xs h1 h2 => by
    have a := join_len " " (xs.map strI)
    have b := lens_le xs h1
    rw [List.length_map] at a
    have e : (" " : Str).length = 1 := by decide
    rw [e] at a
    omega
  have j3 : (thirdT s).length ≤ 400 := by
    unfold thirdT
    split
    · decide
    · exact jl _ hO lO
  refine .ret (.evf (.join (ys := dumpP s) .str (.lkM0 (.var rfl) ⟨s, hW, rfl, rfl⟩) ?_) hP)
  have a1 := jl _ hR lR
  have a2 := jl _ hLf lL
  show (Str.join " " ((tab (s.n + 1) s.R).map strI)).length + ((Str.join " " ((tab (s.n + 1) fun v => s.L (v + 1)).map strI)).length + ((thirdT s).length + 0)) + 3 * (" | " : Str).length ≤ 16777216
  have e3 : (" | " : Str).length = 3 := by decide
  rw [e3]
  omega

end
end Lay
end
section
set_option Elab.async false
set_option linter.all false
set_option autoImplicit false
set_option maxRecDepth 100000
set_option maxHeartbeats 4000000
/-! own layer Q: for i, x in enumerate(a tuple) -/
namespace Lay
open PySem PySem.Spec PyProof.Rows L2
set_option maxHeartbeats 4000000 in
theorem meets_enumerate_newT (l : Addr) (items : Array Value) :
    Meets (Builtin.«enumerate.__new__» ⟨[.type "enumerate", .ref l], []⟩) (fun _ R s => s.heap.IsTuple l items ∧
      R (.ok (.ret (.ref (s.heap.push { cls := .type "tuple_iterator", data := .fields #[.ref l, .int 0 0] }).objs.size)))
        { s with heap := (s.heap.push { cls := .type "tuple_iterator", data := .fields #[.ref l, .int 0 0] }).push { cls := .type "enumerate", data := .fields #[.none, .bool false, .ref s.heap.objs.size, rawInt 0, .none, .none] } }) :=
  .of_wp fun prog w A R s h => by
    obtain ⟨hp, g, d, tk, os⟩ := s; obtain ⟨hl, h⟩ := h
    have hsub := sub_enumerate
    have hL : Heap.IsTuple (Shared.heap ⟨hp, g, d, tk, os⟩) l items := hl
    have q1 : ∀ {A' : Around} {E : Value → Shared → Prop} {Q : Value → Shared → Prop}, Q (.ref hp.objs.size) ⟨hp.push { cls := .type "tuple_iterator", data := .fields #[.ref l, .int 0 0] }, g, d, tk, os⟩ → wpAny (model prog w) A' (pyIter (.ref l)) Q E ⟨hp, g, d, tk, os⟩ :=
      fun q => wpAny_pyIter_tuple hL q
    wp_walk using q1
    refine wpAny_stack_any fun st => wpAny_pure ?_
    split
    · rename_i c _ _ _ _ _
      cases (c == Value.type "enumerate")
      · wp_walk using q1
        exact ⟨_, rfl, h⟩
      · wp_walk using q1
        exact ⟨_, rfl, h⟩
    · wp_walk using q1
      exact ⟨_, rfl, h⟩
theorem call_enumerate_tuple {prog : Program} {w : World} {A : Around} {E : Value → Shared → Prop} {s : Shared} {l : Addr} {items : Array Value} {Q : Value → Shared → Prop} (hL : s.heap.IsTuple l items)
    (h : ∀ h', IsEnum h' (s.heap.objs.size + 1) s.heap.objs.size 0 .none → h'.IsTupleIter s.heap.objs.size l 0 → h'.objs.size = s.heap.objs.size + 2 →
      (∀ b o, s.heap.get? b = some o → h'.get? b = some o) → Q (.ref (s.heap.objs.size + 1)) { s with heap := h' }) :
    wpAny (model prog w) A (call (.type "enumerate") [.ref l]) Q E s := by
  refine callType_new F.called_enumerate (by decide) (F.typeCall_enumerate_1 _) (F.newCall_enumerate_1 _) (fun obj => F.args_object_init_2 obj _) F.entry_enumerate_new
    (meets_enumerate_newT l items) ⟨hL, ?_⟩
  have hz : (s.heap.push { cls := .type "tuple_iterator", data := .fields #[.ref l, .int 0 0] }).objs.size = s.heap.objs.size + 1 := Heap.size_push ..
  show _ ∧ _
  rw [hz]
  have he : IsEnum ((s.heap.push { cls := .type "tuple_iterator", data := .fields #[.ref l, .int 0 0] }).push
      { cls := .type "enumerate", data := .fields #[.none, .bool false, .ref s.heap.objs.size, rawInt 0, .none, .none] }) (s.heap.objs.size + 1) s.heap.objs.size 0 .none := by
    have := Heap.get?_push_size (s.heap.push { cls := .type "tuple_iterator", data := .fields #[.ref l, .int 0 0] })
      (o := { cls := .type "enumerate", data := .fields #[.none, .bool false, .ref s.heap.objs.size, rawInt 0, .none, .none] }) rfl
    rw [hz] at this; exact this
  refine ⟨⟨_, he, rfl⟩, h _ he ⟨_, Heap.get?_push_of_some _ (Heap.get?_push_size _ rfl), rfl, rfl⟩ (by rw [Heap.size_push, hz]) fun b o x => Heap.get?_push_of_some _ (Heap.get?_push_of_some _ x)⟩
/-- the tuple at a, each item in a new pair -/
def IteT (K : PySem.W.Frag) (a : Addr) : It :=
  ⟨fun i H => ∃ (xs : List V) (x : V), SqT K H a xs ∧ xs[i]? = some x, fun i H v H' => ∃ T x, v = .ref T ∧ H T = none ∧ H' = upd H T (.tup [.int (i : Nat), x]) ∧ ∀ xs, SqT K H a xs → xs[i]? = some x, fun i H => ∃ xs : List V, SqT K H a xs ∧ xs.length = i⟩
theorem turn_enumT {P : Program} {w : World} {K : PySem.W.Frag} {elts : List Expr} {kk : Nat} {tpos : Pos} (a e it : Addr) :
    Turn P w K (.Tuple elts kk tpos) (IteT K a) [e, it] e (fun i h => (∃ old, IsEnum h e it ((i : Nat) : Int) old) ∧ h.IsTupleIter it a i ∧ e ≠ it) where
  mem := by simp
  obj := fun i h st b hb => by
    obtain ⟨⟨old, he⟩, ⟨o, ho, hc, hd⟩, _⟩ := st
    have e' : b = e ∨ b = it := by simpa using hb
    rcases e' with z | z
    · rw [z]; exact ⟨_, he, fun v q => nomatch q⟩
    · rw [z]; exact ⟨o, ho, fun v q => by rw [hd] at q; cases q⟩
  keep := fun i h h' st k => let ⟨⟨old, he⟩, hi, hne⟩ := st; ⟨⟨old, k e (by simp) _ he⟩, hi.at fun o q => k it (by simp) o q, hne⟩
  item := by
    intro X hP hw hK hc i pins s σ H E I hf st hg
    subst hP hw hK
    obtain ⟨⟨old, he⟩, hit, hne⟩ := st
    obtain ⟨xs, x, hq, hx⟩ := hg
    obtain ⟨its, rv, p, hz⟩ := I.tuple hq
    obtain ⟨u, hu, ru⟩ := rv.get hx
    have pT : s.heap.IsTuple a its.toArray := p
    have hel : e < s.heap.objs.size := Heap.lt_size he
    have hil : it < s.heap.objs.size := by obtain ⟨_, q, _⟩ := hit; exact Heap.lt_size q
    have hea : e ≠ a := fun z => by
      obtain ⟨o, ho, hcl, _⟩ := pT
      rw [← z, he] at ho
      cases ho
      exact absurd (show Value.type "enumerate" = Value.type "tuple" from hcl) (by simp)
    have hai : a ≠ it := fun z => by
      obtain ⟨o, ho, hcl, n, hdd⟩ := pT
      obtain ⟨o2, ho2, _, hd2⟩ := hit
      rw [z, ho2] at ho
      cases ho
      rw [hd2] at hdd
      cases hdd
    have hlt : i < its.toArray.size := by
      have := (List.getElem?_eq_some_iff.mp hu).1
      simpa using this
    refine wpAny_pyNext_enum_itemD (Draws.tuple (A := X.A.in1) (I.ok.hd hc) it a hai its.toArray) he ⟨hit, pT⟩ hlt hne (by simp [hne, hea]) fun y h' tk hy ho hst' hT hsz hk => ?_
    have ey : y = u := by
      have h2 : its.toArray[i]? = some u := by simpa using hu
      exact Option.some.inj (hy.symm.trans h2)
    subst ey
    refine ⟨_, rfl, wpAny_letOwnedTupleGo_enum (s := { s with heap := h', toks := tk + 1 }) ho fun h'' he' sb => ?_⟩
    have hT2 : h''.get? s.heap.objs.size = some { cls := .type "tuple", data := .seq #[.int i tk, y] } := (sb.2 _ (Nat.ne_of_gt hel)).trans hT
    have new : ObjOk X.prog X.w (upd H s.heap.objs.size (.tup [.int (i : Nat), x])) h'' s.heap.objs.size (.tup [.int (i : Nat), x]) :=
      ⟨by show 2 ≤ sizeLine; decide, [.int i tk, y], .cons ⟨_, rfl⟩ (.cons ru .nil), ⟨_, hT2, rfl, _, rfl⟩⟩
    have I1 : Inv X pins σ (upd H s.heap.objs.size (.tup [.int (i : Nat), x])) { s with heap := h'', toks := tk + 1 } :=
      I.turnedNew (ch := [e, it]) (fun b ob hb q => (sb.2 b (fun z => hb (by simp [z]))).trans (hk b ob (fun z => hb (by simp [z])) (fun z => hb (by simp [z])) q)) hf (Nat.le_refl _) new
    refine ⟨.ref s.heap.objs.size, _, I1, rfl, ⟨_, x, rfl, I.hok.fresh (Nat.le_refl _), rfl, fun ys hy => by rw [I.tuple_inj hy hq]; exact hx⟩, ⟨⟨y, ?_⟩, hst'.1.at fun o q => (sb.2 it (Ne.symm hne)).trans q, hne⟩, fun b hb => ?_⟩
    · have e1 : ((i + 1 : Nat) : Int) = (i : Int) + 1 := by omega
      rw [e1]; exact he'
    · have hb' : b < s.heap.objs.size := by
        have e' : b = e ∨ b = it := by simpa using hb
        rcases e' with z | z
        · rw [z]; exact hel
        · rw [z]; exact hil
      rw [upd_ne (Nat.ne_of_lt hb')]
      exact (hf b hb).1
  done := by
    intro X hP hw hK hc i pins s σ H E I hf st hg
    subst hP hw hK
    obtain ⟨⟨old, he⟩, hit, hne⟩ := st
    obtain ⟨xs, hq, hx⟩ := hg
    obtain ⟨its, rv, p, hz⟩ := I.tuple hq
    obtain ⟨f0, f1, f2, f3, f4, f5⟩ := hf it (by simp)
    have hl := rv.length
    have pT : s.heap.IsTuple a its.toArray := p
    have hai : a ≠ it := fun z => by
      obtain ⟨o, ho, hcl, n, hdd⟩ := pT
      obtain ⟨o2, ho2, _, hd2⟩ := hit
      rw [z, ho2] at ho
      cases ho
      rw [hd2] at hdd
      cases hdd
    have hi : i = its.toArray.size := by simp; omega
    subst hi
    exact wpAny_pyNext_enum_endD (Draws.tuple (A := X.A.in1) (I.ok.hd hc) it a hai its.toArray) he ⟨hit, pT⟩ fun h' eb => ⟨rfl, I.turned (t' := s.toks) (fun b o hb q => eb b o hb q) f0 f1 f3 f4 f5⟩
  self := fun A i s Q E st h => let ⟨⟨_, he⟩, _⟩ := st; wpAny_pyIter_enum he h
def iEnumT (K : PySem.W.Frag) (ta : TA) : TI := fun σ H R => ta σ H fun vs H1 => ∃ a xs, vs = [.ref a] ∧ SqT K H1 a xs ∧ R (IteT K a) H1
theorem pi_enumT {X : Cx} {e : Expr} {ta : TA} {p pos tpos : Pos} {elts : List Expr} {kk : Nat} (hg : Gl X "enumerate") (hm : X.mg "enumerate" = none) (ha : PA X [e] ta) (hs : starEach [e] X.env = [(false, eval e X.env)] := by rfl) :
    PI X (.Tuple elts kk tpos) (.Call (.Name "enumerate" p) [e] [] pos) (iEnumT X.K ta) := by
  refine ⟨fun pins s σ H R I h => ?_⟩
  refine Call_ (ld_blt I hg hm boot_enumerate (PyProof.Rows.callWith_type1 (thn (ha.run pos pins s σ H _ I h) fun us s1 ⟨vs, H1, I1, r1, q1⟩ => ?_) hs rfl))
  obtain ⟨a, xs, ex, hq, q⟩ := q1
  subst ex
  cases r1 with
  | cons r rr =>
    cases rr
    cases r
    obtain ⟨its, rv, p', hz⟩ := I1.tuple hq
    refine call_enumerate_tuple (show s1.heap.IsTuple a its.toArray from p') fun h' he hit hsz hk => wpAny_pyIter_enum he ?_
    have I2 : Inv X pins σ H1 { s1 with heap := h' } := I1.kept (t' := s1.toks) hk
    refine ⟨s1.heap.objs.size + 1, [s1.heap.objs.size + 1, s1.heap.objs.size], _, _, H1, rfl, I2, turn_enumT a (s1.heap.objs.size + 1) s1.heap.objs.size, ⟨⟨.none, he⟩, hit, Nat.succ_ne_self _⟩, fun b hb => ?_, q⟩
    have e' : b = s1.heap.objs.size + 1 ∨ b = s1.heap.objs.size := by simpa using hb
    have hle : s1.heap.objs.size ≤ b := by
      rcases e' with z | z
      · rw [z]; exact Nat.le_add_right _ _
      · rw [z]; exact Nat.le_refl _
    exact I1.fpOk hle (I1.hok.fresh hle)
/-- for i, j in enumerate(a tuple); the body may raise -/
theorem RnX.forEnumT {K : PySem.W.Frag} {E : XK} {te : TE} {ts : TS} {ss : List (Option DV)} {F : Hp} {N : List (Option DV) → Hp → Prop} {R : DV → Hp → Prop} {PE : XP} {ds : List DV} {i j : Nat} (Iv : Nat → List (Option DV) → Hp → Prop) (h : EvF K te ss F fun d F1 => d = .t ds ∧ Iv 0 ss F1) (hs : ∀ k d ss' F', ds[k]? = some d → Iv k ss' F' → RnX K E ts ((ss'.set i (some (.i (k : Nat)))).set j (some d)) F' (Iv (k + 1)) R PE) (hd : ∀ ss' F', Iv ds.length ss' F' → N ss' F') :
    RnX K E (tFor (iEnumT K (tCons te tNil)) (gTup K 2 (gCons (gName i) (gCons (gName j) gNil))) ts) ss F N R PE := fun σ G o D nx rt gx => h σ G o _ fun v d G1 F1 g r ⟨e, h0⟩ => by
  subst e
  obtain ⟨a, vs, rfl, ha, hr⟩ := r.t_inv
  refine ⟨a, vs, rfl, sqt_same same_joi ha, ?_⟩
  refine ⟨fun k m σ' H' => m = vs.length - k ∧ k ≤ vs.length ∧ ∃ ss' G' F', Gr G1 G' F' ∧ Sg K G' σ' ss' ∧ H' = joi G' F' ∧ Iv k ss' F', ⟨vs.length, by simp, Nat.zero_le _, ss, G1, F1, (o.gr g).refl, (o.gr g).sg, rfl, h0⟩, ?_⟩
  rintro k m σ' H' ⟨rfl, hk, ss', G', F', g2, s, rfl, p⟩
  have sq : SqT K (joi G' F') a vs := sqt_same ((g2.sm).trans same_joi) ha
  by_cases hlt : k < vs.length
  · refine .inr ⟨⟨vs, vs[k], sq, by simp [hlt]⟩, fun σ' H' => ∃ ss' G' F', Gr G1 G' F' ∧ Sg K G' σ' ss' ∧ H' = joi G' F' ∧ Iv (k + 1) ss' F', fun σ' H' p' => ⟨vs.length - (k + 1), by omega, rfl, hlt, p'⟩, ?_⟩
    rintro v H2 ⟨Tt, x, rfl, hT, rfl, hx⟩
    have hx := hx vs sq
    have hke : k < ds.length := by rw [← hr.1]; exact hlt
    have hd' : ds[k]? = some ds[k] := List.getElem?_eq_getElem hke
    have g3 : Gr G' (upd G' Tt (.tup [.int (k : Nat), x])) F' := .new g2.dj g2.gG g2.gF hT
    have rx := ((hr.2 k x _ hx hd').same g2.sm).same g3.sm
    rw [joi_new]
    refine ⟨Tt, _, rfl, .of (joi_l upd_same), rfl, .int (k : Nat), [x], rfl, x, [], rfl, rfl, ?_⟩
    exact hs k _ ss' F' hd' p _ _ ⟨((s.same g3.sm).set (.i _)).set rx, g3.dj, g3.gG, g3.gF⟩ _ (fun σ2 ss2 G2 F2 g4 s2 p2 => ⟨ss2, G2, F2, (g2.trans g3).trans g4, s2, rfl, p2⟩) (((rt.gr g).gr g2).gr g3) (((gx.gr g).gr g2).gr g3)
  · have ek : k = vs.length := by omega
    subst ek
    refine .inl ⟨⟨vs, sq, rfl⟩, nx σ' ss' G' F' (g.trans g2) s (hd _ _ (by rw [← hr.1]; exact p))⟩
end Lay
end
section
set_option Elab.async false
set_option linter.all false
set_option autoImplicit false
set_option maxRecDepth 100000
set_option maxHeartbeats 4000000
/-! own layer R: the desk as data in F -/
namespace Lay
open PySem PySem.Spec PyProof.Rows L2
section
variable {K : PySem.W.Frag} {te ta tb tl to_ ti : TE} {tt tu : TT} {ts tr : TS} {tas : TA} {ss : List (Option DV)} {F : Hp} {P P' : DV → Hp → Prop} {a b d : DV} {N : List (Option DV) → Hp → Prop} {R : DV → Hp → Prop} {c c1 c2 : Bool} {ds es : List DV} {Φ : Ph} {E : L2.St → XK}
/-- x.append(e), the list told by an expression -/
theorem RnF.appendF {p : Addr} {vs : List V} (hx : EvF K ta ss F fun d F' => d = .m p ∧ F' = F) (he : EvF K te ss F fun d' F' => d' = d ∧ F' = F) (hF : F p = some (.lst vs)) (hz : vs.length < 16777216) (hd : flatM d = true) (hn : N ss (upd F p (.lst (vs ++ [vl d])))) :
    RnF K (tDrop (tBM K "list" rAppend ta (tCons te tNil))) ss F N R := fun σ G o D nx rt =>
  hx σ G o _ fun x d1 G1 F1 g1 rx ⟨e1, e2⟩ => by
    subst e1 e2
    obtain rfl := rx.m_inv
    have gp : ∀ {G'}, Disj G' F1 → G' p = none := fun {G'} dj => (dj p).resolve_right fun z => by rw [hF] at z; cases z
    have hj : ∀ {G'}, Disj G' F1 → joi G' F1 p = some (.lst vs) := fun {G'} dj => by rw [joi_r (gp dj)]; exact hF
    refine ⟨.inl ⟨rfl, _, .inl (.inl (hj g1.dj))⟩, he σ G1 (o.gr g1) _ fun v d2 G2 F2 g2 rv ⟨e3, e4⟩ => ?_⟩
    subst e3 e4
    have ev := rep_vl rv hd
    subst ev
    refine ⟨p, vs, vl d2, rfl, rfl, hj g2.dj, by rw [sizeLine_eq]; omega, ?_⟩
    rw [joi_put (gp g2.dj)]
    exact nx σ ss G2 _ ((g1.trans g2).trans (.put g2.dj g2.gG g2.gF hF)) (o.gr (g1.trans g2)).sg hn
/-- x.append(e), e changing F -/
theorem RnF.appendFF {p : Addr} {vs0 : List V} (hx : EvF K ta ss F fun d F' => d = .m p ∧ F' = F) (h0 : F p = some (.lst vs0)) (he : EvF K te ss F fun d' F2 => flatM d' = true ∧ ∃ vs, F2 p = some (.lst vs) ∧ vs.length < 16777216 ∧ N ss (upd F2 p (.lst (vs ++ [vl d'])))) :
    RnF K (tDrop (tBM K "list" rAppend ta (tCons te tNil))) ss F N R := fun σ G o D nx rt =>
  hx σ G o _ fun x d1 G1 F1 g1 rx ⟨e1, e2⟩ => by
    subst e1 e2
    obtain rfl := rx.m_inv
    have gp : G1 p = none := (g1.dj p).resolve_right fun z => by rw [h0] at z; cases z
    refine ⟨.inl ⟨rfl, _, .inl (.inl (by rw [joi_r gp]; exact h0))⟩, he σ G1 (o.gr g1) _ fun v d2 G2 F2 g2 rv ⟨hd, vs, hF, hz, hn⟩ => ?_⟩
    have ev := rep_vl rv hd
    subst ev
    have gp2 : G2 p = none := (g2.dj p).resolve_right fun z => by rw [hF] at z; cases z
    refine ⟨p, vs, vl d2, rfl, rfl, by rw [joi_r gp2]; exact hF, by rw [sizeLine_eq]; omega, ?_⟩
    rw [joi_put gp2]
    exact nx σ ss G2 _ ((g1.trans g2).trans (.put g2.dj g2.gG g2.gF hF)) (o.gr (g1.trans g2)).sg hn
theorem EvB.truth (h : EvD K ta ss (.l es)) : EvB K (fun σ H Q => ta σ H fun x H' => ∃ k, TruV K x H' k ∧ Q k H') ss (!es.isEmpty) := fun F σ G o Q q => h.at o fun x G1 g1 rx => by
  obtain ⟨a, vs, rfl, ha, hr⟩ := rx.l_inv
  refine ⟨!es.isEmpty, .inl ⟨vs, .of (joi_l ha), ?_⟩, q _ G1 F g1 ⟨rfl, rfl⟩⟩
  have := hr.1
  cases vs <;> cases es <;> first | rfl | simp at this
/-- x.pop() of ints -/
theorem EvF.popF {p : Addr} {vs : List V} {v : V} (hx : EvF K ta ss F fun d F' => d = .m p ∧ F' = F) (hF : F p = some (.lst vs)) (hl : vs[vs.length - 1]? = some v) (hv : flat0 v) (q : P (up v) (upd F p (.lst vs.dropLast))) : EvF K (tBM K "list" rPop ta tNil) ss F P := fun σ G o Q go =>
  hx σ G o _ fun x d1 G1 F1 g1 rx ⟨e1, e2⟩ => by
    subst e1 e2
    obtain rfl := rx.m_inv
    have gp : G1 p = none := (g1.dj p).resolve_right fun z => by rw [hF] at z; cases z
    have hj : joi G1 F1 p = some (.lst vs) := by rw [joi_r gp]; exact hF
    refine ⟨.inl ⟨rfl, _, .inl (.inl hj)⟩, p, vs, v, rfl, rfl, hj, hl, ?_⟩
    rw [joi_put gp]
    exact go v (up v) G1 _ (g1.trans (.put g1.dj g1.gG g1.gF hF)) (Rep.up hv) q
/-- o.m(e, ..), o told by an expression -/
theorem EvF.methF {p C dx : Addr} {fs : List (Str × V)} {m : Str} (ha : EvF K ta ss F fun d F' => d = .m p ∧ F' = F) (hF : F p = some (.ins C dx fs)) (hm : fs.lookup m = none) (hs : EvA K tas ss F fun ds F' => Φ (.m p :: ds) F' P) : EvF K (tMethE C m (PD K Φ) E ta tas) ss F P := fun σ G o Q go => ha σ G o _ fun x d1 G1 F1 g1 rx ⟨e1, e2⟩ => by
  subst e1 e2
  obtain rfl := rx.m_inv
  have hG : G1 p = none := (g1.dj p).resolve_right fun z => by rw [hF] at z; cases z
  exact ⟨p, dx, fs, rfl, by rw [joi_r hG]; exact hF, hm, hs σ G1 (o.gr g1) _ fun vs ds G2 F2 g2 rs hΦ => ⟨G2, F2, _, P, rfl, g2.dj, g2.gG, g2.gF, .cons (.m p) rs, hΦ, go.gr (g1.trans g2)⟩⟩
/-- .. of what makes something new beside F -/
theorem EvF.methFresh {p C dx : Addr} {fs : List (Str × V)} {m : Str} {x1 : DV} (ha : EvF K ta ss F fun d F' => d = .m p ∧ F' = F) (hF : F p = some (.ins C dx fs)) (hm : fs.lookup m = none) (hr : Rep K F (.ref p) x1) (hΦ : Φ [x1] nilH fun d F0 => flatM d = true ∧ (Disj F F0 → Good F0 → P d (joi F F0))) : EvF K (tMethE C m (PD K Φ) E ta tNil) ss F P := fun σ G o Q go => ha σ G o _ fun x d1 G1 F1 g1 rx ⟨e1, e2⟩ => by
  subst e1 e2
  obtain rfl := rx.m_inv
  have hG : G1 p = none := (g1.dj p).resolve_right fun z => by rw [hF] at z; cases z
  refine ⟨p, dx, fs, rfl, by rw [joi_r hG]; exact hF, hm, ?_⟩
  refine ⟨joi G1 F1, nilH, [x1], _, joi_nil.symm, disj_nil, g1.gG.joi g1.gF g1.dj, good_nil, .cons (hr.same (same_joi_r g1.dj)) .nil, hΦ, fun v d G' F0 g r ⟨hf, p⟩ => ?_⟩
  have sF : Same F1 G' := (same_joi_r g1.dj).trans g.sm
  have dF0 : Disj F1 F0 := fun b => by
    cases z : F1 b with
    | none => exact .inl rfl
    | some o => exact .inr ((g.dj b).resolve_left fun y => by rw [sF b o z] at y; cases y)
  have e : joi G' F0 = joi (dif G' F1) (joi F1 F0) := by rw [← joi_assoc, joi_out sF]
  rw [e]
  refine go v d (dif G' F1) (joi F1 F0) (g1.trans ⟨fun b o z => ?_, fun b => ?_, g.gG.dif g1.gF sF, g1.gF.joi g.gF dF0⟩) (rep_flat r hf) (p dF0 g.gF)
  · have hF : F1 b = none := (g1.dj b).resolve_left fun y => by rw [z] at y; cases y
    rw [dif_r hF]
    exact g.sm b o (joi_l z)
  · cases z : dif G' F1 b with
    | none => exact .inl rfl
    | some o =>
      obtain ⟨z1, z2⟩ := dif_some z
      exact .inr (by rw [joi_r z1]; exact (g.dj b).resolve_left fun y => by rw [z2] at y; cases y)
theorem EvX.methF {Φ : PhX} {E : XK} {PE : XP} {p C dx : Addr} {fs : List (Str × V)} {m : Str} (ha : EvF K ta ss F fun d F' => d = .m p ∧ F' = F) (hF : F p = some (.ins C dx fs)) (hm : fs.lookup m = none) (hs : EvA K tas ss F fun ds F' => Φ (.m p :: ds) F' P PE) : EvX K E (tMethE C m (PDX K Φ) (fun _ => E) ta tas) ss F P PE := fun σ G o Q go gx => ha σ G o _ fun x d1 G1 F1 g1 rx ⟨e1, e2⟩ => by
  subst e1 e2
  obtain rfl := rx.m_inv
  have hG : G1 p = none := (g1.dj p).resolve_right fun z => by rw [hF] at z; cases z
  exact ⟨p, dx, fs, rfl, by rw [joi_r hG]; exact hF, hm, hs σ G1 (o.gr g1) _ fun vs ds G2 F2 g2 rs hΦ => ⟨G2, F2, _, P, PE, rfl, g2.dj, g2.gG, g2.gF, .cons (.m p) rs, hΦ, go.gr (g1.trans g2), gx.gr (g1.trans g2)⟩⟩
theorem RnX.raiseOF {E : XK} {PE : XP} {x : Str} {ns : List Str} {ws : List V} (h : EvA K tas ss F fun ds' F' => ds' = ds ∧ F' = F) (hv : ∀ G vs, RepL K G vs ds → vs = ws) (hl : ws.length = ns.length) (hn : ns.length ≤ 100) (p : PE x (fldsOf ns ws) F) :
    RnX K E (fun _ σ H => tMkO (He.ga K x) (spIni (He.ga K x) ns) [] tas σ H fun cls d H' => (fun cls d (_ : L2.St) H => E cls d H) cls d σ H') ss F N R PE := fun σ G o D hN hR hX =>
  h σ G o _ fun vs ds' G1 F1 g1 rs ⟨e1, e2⟩ => by
    subst e1 e2
    have ev := hv G1 vs rs
    subst ev
    refine ⟨by omega, fun a ha => ⟨a, vs, by rw [List.append_nil], hl, upd_same, fun d H' h1 h2 h3 h4 h5 => ⟨rfl, d, _, h1, h2, ?_, ?_⟩⟩⟩
    · rw [upd_ne h4] at h3
      exact h3
    · rw [upd_ne h4] at h3
      have e : upd (del H' a) d (.xd (fldsOf ns vs)) = upd (joi G1 F1) d (.xd (fldsOf ns vs)) := by
        funext b
        by_cases hb : b = d
        · subst hb; rw [upd_same, upd_same]
        · rw [upd_ne hb, upd_ne hb]
          by_cases ha2 : b = a
          · subst ha2; rw [del_same, ha]
          · rw [del_ne ha2, h5 b ha2 hb, upd_ne ha2]
      rw [e]
      exact hX x _ G1 F1 (some d) _ g1 p (.inr ⟨d, rfl, h3, rfl⟩)
/-- .x of an object in F, an address -/
theorem EvF.fldM {p q C dx : Addr} {fs : List (Str × V)} {f : Str} (ha : EvD K ta ss (.m p)) (hF : F p = some (.ins C dx fs)) (c : Cls K C) (na : NoAttr K C f) (hf : fs.lookup f = some (.ref q)) : EvF K (tFld K ta f) ss F fun d F' => d = .m q ∧ F' = F := .fldF ha hF c na hf True.intro ⟨rfl, rfl⟩
/-- x[i:], x[:i] of a list in F, again in F -/
theorem EvF.sliceF {p : Addr} {vs : List V} {tlo thi : TO} {lo hi : Option Int} (hx : EvF K ta ss F fun d F' => d = .m p ∧ F' = F) (hl : EvO K ss tlo lo) (hh : EvO K ss thi hi) (hF : F p = some (.lst vs)) (hp : ∀ q, F q = none → P (.m q) (upd F q (.lst (cutV vs lo hi)))) : EvF K (tSl (rSlL K) ta tlo thi) ss F P := fun σ G o Q go =>
  hx σ G o _ fun x d1 G1 F1 g1 rx ⟨e1, e2⟩ => by
    subst e1 e2
    obtain rfl := rx.m_inv
    refine hl.at (o.gr g1) fun G2 g2 => hh.at (o.gr (g1.trans g2)) fun G3 g3 => ?_
    have gp : G3 p = none := (g3.dj p).resolve_right fun z => by rw [hF] at z; cases z
    refine ⟨p, vs, rfl, .of (by rw [joi_r gp]; exact hF), fun q hq => ?_⟩
    rw [joi_put (joi_none hq).1]
    exact go _ (.m q) G3 _ (((g1.trans g2).trans g3).trans (.newF g3.dj g3.gG g3.gF hq)) (.m q) (hp q (joi_none hq).2)
/-- tuple(x), x a list in F -/
theorem EvF.tupF (hx : EvF K ta ss F fun d F' => ∃ p vs, d = .m p ∧ F' p = some (.lst vs) ∧ ∀ q, F' q = none → P (.m q) (upd F' q (.tup vs))) : EvF K (tCB (fun xs H Q => ∃ p ys, xs = [.ref p] ∧ ((SqL K H p ys ∧ ∀ l, H l = none → Q (.ref l) (upd H l (.tup ys))) ∨ (SqT K H p ys ∧ Q (.ref p) H))) (tCons ta tNil)) ss F P := fun σ G o Q go =>
  hx σ G o _ fun x d1 G1 F1 g1 rx ⟨p, vs, e1, hF, hp⟩ => by
    subst e1
    obtain rfl := rx.m_inv
    have gp : G1 p = none := (g1.dj p).resolve_right fun z => by rw [hF] at z; cases z
    refine ⟨p, vs, rfl, .inl ⟨.of (by rw [joi_r gp]; exact hF), fun q hq => ?_⟩⟩
    rw [joi_put (joi_none hq).1]
    exact go _ (.m q) G1 _ (g1.trans (.newF g1.dj g1.gG g1.gF hq)) (.m q) (hp q (joi_none hq).2)
/-- list(x), x a list in F -/
theorem EvF.listFF {p : Addr} {vs : List V} (hx : EvF K ta ss F fun d F' => d = .m p ∧ F' = F) (hF : F p = some (.lst vs)) (hp : ∀ q, F q = none → P (.m q) (upd F q (.lst vs))) : EvF K (tCB (rListOf K) (tCons ta tNil)) ss F P := fun σ G o Q go =>
  hx σ G o _ fun x d1 G1 F1 g1 rx ⟨e1, e2⟩ => by
    subst e1 e2
    obtain rfl := rx.m_inv
    have gp : G1 p = none := (g1.dj p).resolve_right fun z => by rw [hF] at z; cases z
    refine ⟨p, vs, rfl, .inl (.of (by rw [joi_r gp]; exact hF)), fun q hq => ?_⟩
    rw [joi_put (joi_none hq).1]
    exact go _ (.m q) G1 _ (g1.trans (.newF g1.dj g1.gG g1.gF hq)) (.m q) (hp q (joi_none hq).2)
end
/-! ### the desk -/
structure Dk where
  n : Int
  cap : Int
  k : Int
  log : List Int
  starts : List Int
  s : St
  und : List (List Int)
structure DA where
  dx : Addr
  lg : Addr
  lk : Addr
  st : Addr
  un : Addr
  dxl : Addr
  l : Addr
  r : Addr
  f : Addr
  ua : List Addr
abbrev deskFs (A : DA) (D : Dk) : List (Str × V) := [("size", .int D.n), ("capacity", .int D.cap), ("_mode", .str (modeN D.k)), ("_log", .ref A.lg), ("_links", .ref A.lk), ("_starts", .ref A.st), ("_undone", .ref A.un)]
structure DkP (K : PySem.W.Frag) (F : Hp) (d : Addr) (A : DA) (D : Dk) : Prop where
  od : F d = some (.ins (He.ga K "Desk") A.dx (deskFs A D))
  og : F A.lg = some (.lst (D.log.map V.int))
  ok : LkP K F A.lk A.dxl A.l A.r A.f D.s
  os : F A.st = some (.lst (D.starts.map V.int))
  ou : F A.un = some (.lst (A.ua.map V.ref))
  ul : A.ua.length = D.und.length
  ut : ∀ (i : Nat) (a : Addr) (xs : List Int), A.ua[i]? = some a → D.und[i]? = some xs → F a = some (.tup (xs.map V.int))
  gs : A.lg ≠ A.st
  gu : A.lg ≠ A.un
  gl : A.lg ≠ A.l
  gr : A.lg ≠ A.r
  gf : A.lg ≠ A.f
  su : A.st ≠ A.un
  sl : A.st ≠ A.l
  sr : A.st ≠ A.r
  sf : A.st ≠ A.f
  ul' : A.un ≠ A.l
  ur : A.un ≠ A.r
  uf : A.un ≠ A.f
/-- what always holds -/
structure DkW (D : Dk) : Prop where
  n0 : 0 ≤ D.n
  n1 : D.n ≤ 60
  sn : D.s.n = D.n
  wf : Wf D.s
  c0 : 1 ≤ D.cap
  c1 : D.cap ≤ 2000
  k0 : 0 ≤ D.k
  k1 : D.k ≤ 3
  lz : D.log.length ≤ 2000
  sz : D.starts.length ≤ 100000
  uz : D.und.length ≤ 100000
theorem DkP.ne {K : PySem.W.Frag} {F : Hp} {d : Addr} {A : DA} {D : Dk} (h : DkP K F d A D) {p : Addr} {xs : List V} (hp : F p = some (.lst xs)) : p ≠ d := fun z => by rw [z, h.od] at hp; cases hp
theorem DkP.neK {K : PySem.W.Frag} {F : Hp} {d : Addr} {A : DA} {D : Dk} (h : DkP K F d A D) {p : Addr} {xs : List V} (hp : F p = some (.lst xs)) : p ≠ A.lk := fun z => by rw [z, h.ok.oa] at hp; cases hp
theorem DkP.neT {K : PySem.W.Frag} {F : Hp} {d : Addr} {A : DA} {D : Dk} (h : DkP K F d A D) {p : Addr} {xs : List V} (hp : F p = some (.lst xs)) {i : Nat} {a : Addr} (hi : A.ua[i]? = some a) : a ≠ p := fun z => by
  have hl : i < D.und.length := by rw [← h.ul]; exact (List.getElem?_eq_some_iff.mp hi).1
  have := h.ut i a _ hi (List.getElem?_eq_getElem hl)
  rw [z, hp] at this
  cases this
/-- the log changes -/
theorem DkP.setLog {K : PySem.W.Frag} {F : Hp} {d : Addr} {A : DA} {D : Dk} (h : DkP K F d A D) (log' : List Int) : DkP K (upd F A.lg (.lst (log'.map V.int))) d A { D with log := log' } := by
  refine ⟨?_, upd_same, ⟨?_, ?_, ?_, ?_, h.ok.lr, h.ok.lf, h.ok.rf⟩, ?_, ?_, h.ul, fun i a xs h1 h2 => ?_, h.gs, h.gu, h.gl, h.gr, h.gf, h.su, h.sl, h.sr, h.sf, h.ul', h.ur, h.uf⟩
  · rw [upd_ne (Ne.symm (h.ne h.og))]; exact h.od
  · rw [upd_ne (Ne.symm (h.neK h.og))]; exact h.ok.oa
  · rw [upd_ne (Ne.symm h.gl)]; exact h.ok.ol
  · rw [upd_ne (Ne.symm h.gr)]; exact h.ok.or
  · rw [upd_ne (Ne.symm h.gf)]; exact h.ok.of
  · rw [upd_ne (Ne.symm h.gs)]; exact h.os
  · rw [upd_ne (Ne.symm h.gu)]; exact h.ou
  · rw [upd_ne (h.neT h.og h1)]; exact h.ut i a xs h1 h2
theorem DkP.setStarts {K : PySem.W.Frag} {F : Hp} {d : Addr} {A : DA} {D : Dk} (h : DkP K F d A D) (st' : List Int) : DkP K (upd F A.st (.lst (st'.map V.int))) d A { D with starts := st' } := by
  refine ⟨?_, ?_, ⟨?_, ?_, ?_, ?_, h.ok.lr, h.ok.lf, h.ok.rf⟩, upd_same, ?_, h.ul, fun i a xs h1 h2 => ?_, h.gs, h.gu, h.gl, h.gr, h.gf, h.su, h.sl, h.sr, h.sf, h.ul', h.ur, h.uf⟩
  · rw [upd_ne (Ne.symm (h.ne h.os))]; exact h.od
  · rw [upd_ne h.gs]; exact h.og
  · rw [upd_ne (Ne.symm (h.neK h.os))]; exact h.ok.oa
  · rw [upd_ne (Ne.symm h.sl)]; exact h.ok.ol
  · rw [upd_ne (Ne.symm h.sr)]; exact h.ok.or
  · rw [upd_ne (Ne.symm h.sf)]; exact h.ok.of
  · rw [upd_ne (Ne.symm h.su)]; exact h.ou
  · rw [upd_ne (h.neT h.os h1)]; exact h.ut i a xs h1 h2
/-- one operation on the links -/
theorem DkP.aft {K : PySem.W.Frag} {F : Hp} {d : Addr} {A : DA} {D : Dk} (h : DkP K F d A D) (op : Int) : DkP K (aftF F A.l A.r A.f D.s op) d A { D with s := Lay.aft D.s op } := by
  refine ⟨?_, ?_, h.ok.aft, ?_, ?_, h.ul, fun i a xs h1 h2 => ?_, h.gs, h.gu, h.gl, h.gr, h.gf, h.su, h.sl, h.sr, h.sf, h.ul', h.ur, h.uf⟩
  · rw [aftF_ne (Ne.symm (h.ne h.ok.ol)) (Ne.symm (h.ne h.ok.or)) (Ne.symm (h.ne h.ok.of))]; exact h.od
  · rw [aftF_ne h.gl h.gr h.gf]; exact h.og
  · rw [aftF_ne h.sl h.sr h.sf]; exact h.os
  · rw [aftF_ne h.ul' h.ur h.uf]; exact h.ou
  · rw [aftF_ne (h.neT h.ok.ol h1) (h.neT h.ok.or h1) (h.neT h.ok.of h1)]; exact h.ut i a xs h1 h2
/-- the undone steps are forgotten: a new list -/
theorem DkP.clear {K : PySem.W.Frag} {F : Hp} {d : Addr} {A : DA} {D : Dk} (h : DkP K F d A D) {q : Addr} (hq : F q = none) : DkP K (upd (upd F q (.lst [])) d (.ins (He.ga K "Desk") A.dx (putF "_undone" (.ref q) (deskFs A D)))) d { A with un := q, ua := [] } { D with und := [] } := by
  have qd : q ≠ d := fun z => by rw [z, h.od] at hq; cases hq
  have nq : ∀ {p o}, F p = some o → p ≠ q := fun e => ne_of_none e hq
  have k : ∀ {p o}, F p = some o → p ≠ d → upd (upd F q (.lst [])) d (.ins (He.ga K "Desk") A.dx (putF "_undone" (.ref q) (deskFs A D))) p = some o := fun e hp => by rw [upd_ne hp, upd_ne (nq e)]; exact e
  have kd : A.lk ≠ d := fun z => by
    have h1 := h.od
    rw [← z, h.ok.oa] at h1
    have h2 := congrArg (fun o : Option HO => match o with | some (.ins _ _ fs) => fs.length | _ => 0) h1
    simp at h2
  refine ⟨?_, k h.og (h.ne h.og), ⟨k h.ok.oa kd, k h.ok.ol (h.ne h.ok.ol), k h.ok.or (h.ne h.ok.or), k h.ok.of (h.ne h.ok.of), h.ok.lr, h.ok.lf, h.ok.rf⟩, k h.os (h.ne h.os), ?_, rfl, fun i a xs h1 h2 => ?_, h.gs, nq h.og, h.gl, h.gr, h.gf, nq h.os, h.sl, h.sr, h.sf, Ne.symm (nq h.ok.ol), Ne.symm (nq h.ok.or), Ne.symm (nq h.ok.of)⟩
  · rw [upd_same]; rfl
  · rw [upd_ne qd, upd_same]; rfl
  · simp at h1
/-- the desk, looked at -/
abbrev Dk.V (D : Dk) : DV := .ob "Desk" [("size", .i D.n), ("capacity", .i D.cap), ("_mode", .s (modeN D.k)), ("_log", .l (D.log.map DV.i)), ("_links", D.s.K), ("_starts", .l (D.starts.map DV.i)), ("_undone", .l (D.und.map fun xs => .t (xs.map DV.i)))]
theorem DkP.rep {K : PySem.W.Frag} {F : Hp} {d : Addr} {A : DA} {D : Dk} (h : DkP K F d A D) : Rep K F (.ref d) D.V := by
  have rl : ∀ {p : Addr} {xs : List Int}, F p = some (.lst (xs.map V.int)) → Rep K F (.ref p) (.l (xs.map DV.i)) := fun e => .l e (RepL.ints (K := K) (G := F)).1 RepL.ints.2
  have ru : Rep K F (.ref A.un) (.l (D.und.map fun xs => .t (xs.map DV.i))) := by
    refine .l h.ou (by simp [h.ul]) fun k v dd h1 h2 => ?_
    rw [List.getElem?_map] at h1 h2
    cases e1 : A.ua[k]? with
    | none => rw [e1] at h1; cases h1
    | some a =>
      cases e2 : D.und[k]? with
      | none => rw [e2] at h2; cases h2
      | some xs =>
        rw [e1] at h1
        rw [e2] at h2
        cases h1
        cases h2
        exact .t (.of (h.ut k a xs e1 e2)) (RepL.ints (K := K) (G := F)).1 RepL.ints.2
  refine .ob (fun f => ((deskFs A D).lookup f).getD .non) h.od (fun f dd e => ?_) fun f dd e => ?_
  · simp only [List.lookup] at e ⊢
    repeat' split at e
    all_goals first | cases e | skip
    all_goals simp_all
  · simp only [List.lookup] at e ⊢
    repeat' split at e
    all_goals first | cases e | skip
    · exact .i _
    · exact .i _
    · exact .s _
    · exact rl h.og
    · exact h.ok.rep
    · exact rl h.os
    · exact ru
end Lay
end
section
set_option Elab.async false
set_option linter.all false
set_option autoImplicit false
set_option maxRecDepth 100000
set_option maxHeartbeats 4000000
namespace Lay
open PySem PySem.Spec PyProof.Rows L2


def jd (D : Dk) (op ix : Int) : Option (Str × List (Str × V)) :=
  if op = 0 ∨ D.n < iabs op then some ("BadOperation", BO op ix) else if op ≠ opOn D.s (iabs op) then some ("Illegal", BO op ix)
  else if refT D.s op D.k ≠ "" then some ("Refused", [("refusing", .str (refT D.s op D.k)), ("index", .int ix), ("operation", .int op)])
  else if D.cap ≤ D.log.length then some ("Full", [("capacity", .int D.cap)]) else none
def wr (D : Dk) (op : Int) : Dk := { D with s := aft D.s op, log := D.log ++ [op] }
def cl (D : Dk) (start : Int) : Dk := if start < D.log.length then { D with starts := D.starts ++ [start], und := [] } else D
abbrev wrF (F : Hp) (A : DA) (D : Dk) (op : Int) : Hp := upd (aftF F A.l A.r A.f D.s op) A.lg (.lst ((D.log ++ [op]).map V.int))
def ph_write (KK : PySem.W.Frag) : Ph := fun ds F P => ∃ d A D op, ds = [.m d, .i op] ∧ DkP KK F d A D ∧ Wf D.s ∧ Leg D.s op ∧ D.log.length < 16777216 ∧ P .n (wrF F A D op)
def ph_close (KK : PySem.W.Frag) : Ph := fun ds F P => ∃ d A D, ∃ start : Int, ds = [.m d, .i start] ∧ DkP KK F d A D ∧ Wf D.s ∧ D.starts.length < 16777216 ∧ ∀ F' A', DkP KK F' d A' (cl D start) → P .n F'
def px_judge (KK : PySem.W.Frag) : PhX := fun ds F P PE => ∃ d A D op ix, ds = [.m d, .i op, .i ix] ∧ DkP KK F d A D ∧ DkW D ∧ (∀ e, jd D op ix = some e → PE e.1 e.2 F) ∧ (jd D op ix = none → P .n F)
def px_doat (KK : PySem.W.Frag) : PhX := fun ds F P PE => ∃ d A D op ix, ds = [.m d, .i op, .i ix] ∧ DkP KK F d A D ∧ DkW D ∧ (∀ e, jd D op ix = some e → PE e.1 e.2 F) ∧ (jd D op ix = none → ∀ F' A', DkP KK F' d A' (cl (wr D op) D.log.length) → P .n F')
def px_do (KK : PySem.W.Frag) : PhX := fun ds F P PE => ∃ d A D op, ds = [.m d, .i op] ∧ DkP KK F d A D ∧ DkW D ∧ (∀ e, jd D op 0 = some e → PE e.1 e.2 F) ∧ (jd D op 0 = none → ∀ F' A', DkP KK F' d A' (cl (wr D op) D.log.length) → P .n F')
def ph_log (KK : PySem.W.Frag) : Ph := fun ds F P => ∃ d A D, ds = [.m d] ∧ DkP KK F d A D ∧ ∀ q, F q = none → P (.m q) (upd F q (.lst (D.log.map V.int)))
def ph_links (KK : PySem.W.Frag) : Ph := fun ds F P => ∃ d A D, ds = [.m d] ∧ DkP KK F d A D ∧ Wf D.s ∧ ∀ a F0, NewL KK nilH F0 a D.s → Disj F F0 → Good F0 → P (.m a) (joi F F0)
def ph_length (KK : PySem.W.Frag) : Ph := fun ds F P => ∃ d A D, ds = [.m d] ∧ DkP KK F d A D ∧ P (.i D.log.length) F
def ph_ddebt (KK : PySem.W.Frag) : Ph := fun ds F P => ∃ d A D, ds = [.m d] ∧ DkP KK F d A D ∧ Wf D.s ∧ P (debtD D.s) F
def ph_mode1 (KK : PySem.W.Frag) : Ph := fun ds F P => ∃ d A D, ds = [.m d] ∧ DkP KK F d A D ∧ P (.s (modeN D.k)) F
theorem debt_flat (s : St) : flatD (debtD s) = true := by unfold debtD; split <;> rfl
theorem DkP.wr {K : PySem.W.Frag} {F : Hp} {d : Addr} {A : DA} {D : Dk} (h : DkP K F d A D) (op : Int) : DkP K (wrF F A D op) d A (Lay.wr D op) := (h.aft op).setLog (D.log ++ [op])
section
variable {w : World} {K : PySem.W.Frag} {mg : Str → Option Value} {base : Heap}

theorem ok_Desk_uwrite (T : TX K mg) : FnR PW w K mg base CX0 13 (mA "Desk" "_write" K) (PD K (ph_write K)) := by
  obtain ⟨fd, F⟩ := f_Desk_uwrite T
  refine fnD_of F n_Desk_uwrite (F.bindsN fun _ _ _ _ _ _ us hl => match us, hl with | [_, _], _ => rfl) (fun ds F P ⟨_, _, _, _, e, _⟩ => by rw [e]; rfl) fun cdv A outer s H E hr => ⟨_, PSs.nox
    (pss_cons (ps_expr (pe_methE (pe_fld (pv 0) rfl) (c_Links T) (m_Links_apply T) (ok_Links_apply T) (hr.mono (by decide)) at0 (pa_cons (pv 1) pa_nil)))
      (pss_one (ps_expr (pe_bm PySem.F.plainAttrs_list PySem.F.slot_list_append PySem.F.type_list_append mt_append (pe_fld (pv 0) rfl) (pa_cons (pv 1) pa_nil))))), fun ds F P h gF => ?_⟩
  obtain ⟨d, A, D, op, rfl, hD, hW, hL, hz, hP⟩ := h
  refine .seq (.drop (.methF (.fldM (.var rfl) hD.od (c_Desk T) (n_Desk_ulinks T) rfl) hD.ok.oa rfl (.eva (.cons (.var rfl) .nil) ⟨A.lk, A.dxl, A.l, A.r, A.f, D.s, op, rfl, hD.ok, hW, hL, ?_⟩)))
  have h2 := hD.aft op
  refine RnF.appendF (.fldM (.var rfl) h2.od (c_Desk T) (n_Desk_ulog T) rfl) (.evf (.var rfl) ⟨rfl, rfl⟩) h2.og (by rw [List.length_map]; exact hz) rfl ?_
  have e : (D.log.map V.int) ++ [vl (.i op)] = (D.log ++ [op]).map V.int := by rw [List.map_append]; rfl
  show P .n (upd (aftF F A.l A.r A.f D.s op) A.lg (.lst ((D.log.map V.int) ++ [vl (.i op)])))
  rw [e]
  exact hP

theorem ok_Desk_uclose_step (T : TX K mg) : FnR PW w K mg base CX0 1 (mA "Desk" "_close_step" K) (PD K (ph_close K)) := by
  obtain ⟨fd, F⟩ := f_Desk_uclose_step T
  refine fnD_of F n_Desk_uclose_step (F.bindsN fun _ _ _ _ _ _ us hl => match us, hl with | [_, _], _ => rfl) (fun ds F P ⟨_, _, _, _, e, _⟩ => by rw [e]; rfl) fun cdv A outer s H E hr => ⟨_, PSs.nox
    (pss_one (ps_if (pt_cmpR op_lt (pv 1) (pe_callB call_len_seq (by rfl) (b_len T) boot_len' (pa_cons (pe_fld (pv 0) rfl) pa_nil)) (nomark _)) (pss_cons (ps_expr (pe_bm PySem.F.plainAttrs_list PySem.F.slot_list_append PySem.F.type_list_append mt_append (pe_fld (pv 0) rfl) (pa_cons (pv 1) pa_nil)))
      (pss_one (ps_fld (pv 0) (pe_lst pa_nil) rfl))) pss_nil)), fun ds F P h gF => ?_⟩
  obtain ⟨d, A, D, start, rfl, hD, hW, hz, hP⟩ := h
  refine .ifS (EvT.see (i := 0) (c := decide (start < (D.log.length : Int))) rfl hD.rep (by
    have z := EvD.len (K := K) (ss := [some D.V, some (.i start)]) (te := tFld K (tVar 0) "_log") (es := D.log.map DV.i) (.fldO (.var rfl) rfl (c_Desk T) (n_Desk_ulog T))
    rw [List.length_map] at z
    exact .test (.lt (.var rfl) z)) ?_)
  by_cases h : start < (D.log.length : Int)
  · rw [decide_eq_true h, if_pos rfl]
    refine .seq (RnF.appendF (.fldM (.var rfl) hD.od (c_Desk T) (n_Desk_ustarts T) rfl) (.evf (.var rfl) ⟨rfl, rfl⟩) hD.os (by rw [List.length_map]; exact hz) rfl ?_)
    have e : (D.starts.map V.int) ++ [vl (.i start)] = (D.starts ++ [start]).map V.int := by rw [List.map_append]; rfl
    rw [e]
    have h2 := hD.setStarts (D.starts ++ [start])
    refine .fldSet (.nilF fun q hq => ⟨rfl, A.dx, deskFs A D, by rw [upd_ne (ne_of_none h2.od hq)]; exact h2.od, Nat.le_of_ble_eq_true rfl, ?_⟩) (.var rfl) (c_Desk T) (n_Desk_uundone T)
    refine hP _ { A with un := q, ua := [] } ?_
    unfold cl
    rw [if_pos h]
    exact h2.clear hq
  · rw [decide_eq_false h, if_neg (by simp)]
    refine .nil (hP F A ?_)
    unfold cl
    rw [if_neg h]
    exact hD

theorem okx_Desk_ujudge (T : TX K mg) : FnR PW w K mg base (L2.CX PW w) 18 (mA "Desk" "_judge" K) (PDX K (px_judge K)) := by
  obtain ⟨fd, F⟩ := f_Desk_ujudge T
  refine fnX_of F n_Desk_ujudge (F.bindsN fun _ _ _ _ _ _ us hl => match us, hl with | [_, _, _], _ => rfl) (fun ds F P PE ⟨_, _, _, _, _, e, _⟩ => by rw [e]; rfl) fun cdv A outer s H E hr => ⟨_,
    (pss_cons (ps_expr (pe_callR (okx_check_operation T) (hr.mono (by decide)) rfl (g_check_operation T) (k_check_operation T) (atX (takes_of rfl rfl rfl rfl)) (pa_cons (pe_fld (pv 0) rfl) (pa_cons (pv 1) (pa_cons (pv 2) pa_nil)))))
      (pss_cons (ps_if (pt_cmpR op_ne (pv 1) (pe_methE (pe_fld (pv 0) rfl) (c_Links T) (m_Links_operation_on T) (ok_Links_operation_on T) (hr.mono (by decide)) at0 (pa_cons (pe_callB call_abs (by rfl) (b_abs T) boot_abs' (pa_cons (pv 1) pa_nil)) pa_nil)) (nomark _)) (pss_one (ps_raise rfl (takes_of rfl rfl rfl rfl) (pmk_oexR (ox_Illegal T) (xi_Illegal T).1 (xi_Illegal T).2 (ok_Illegal_init T) (hr.mono (by decide)) pass0 rfl (g_Illegal T) (pa_cons (pv 1) (pa_cons (pv 2) pa_nil))))) pss_nil)
      (pss_cons (ps_set (i := 3) n_Desk_ujudge.nd rfl (by first | exact .inl rfl | exact .inr rfl) (pe_callR (ok_refuser T) (hr.mono (by decide)) rfl (g_refuser T) (k_refuser T) at0 (pa_cons (pe_fld (pv 0) rfl) (pa_cons (pv 1) (pa_cons (pe_fld (pv 0) rfl) pa_nil)))))
      (pss_cons (ps_if (pt_cmpR op_ne (pv 3) pe_str (nomark _)) (pss_one (ps_raise rfl (takes_of rfl rfl rfl rfl) (pmk_oexR (ox_Refused T) (xi_Refused T).1 (xi_Refused T).2 (ok_Refused_init T) (hr.mono (by decide)) pass0 rfl (g_Refused T) (pa_cons (pv 1) (pa_cons (pv 2) (pa_cons (pv 3) pa_nil)))))) pss_nil)
      (pss_one (ps_if (pt_cmpR op_ge (pe_callB call_len_seq (by rfl) (b_len T) boot_len' (pa_cons (pe_fld (pv 0) rfl) pa_nil)) (pe_fld (pv 0) rfl) (nomark _)) (pss_one (ps_raise rfl (takes_of rfl rfl rfl rfl) (pmk_oexR (ox_Full T) (xi_Full T).1 (xi_Full T).2 (ok_Full_init T) (hr.mono (by decide)) pass0 rfl (g_Full T) (pa_cons (pe_fld (pv 0) rfl) pa_nil)))) pss_nil)))))), fun ds F P PE h gF => ?_⟩
  obtain ⟨d, A, D, op, ix, rfl, hD, hw, hE, hN⟩ := h
  have nn := hw.sn
  refine .seq (.drop (.call (EvA.see (i := 0) (ds := [.i D.n, .i op, .i ix]) rfl hD.rep (.cons (.fldO (.var rfl) rfl (c_Desk T) (n_Desk_size T)) (.cons (.var rfl) (.cons (.var rfl) .nil))) rfl ⟨D.n, op, ix, rfl, fun z => hE ("BadOperation", BO op ix) (by unfold jd; rw [if_pos z]), fun z0 => ?_⟩)))
  have l1 : 1 ≤ iabs op := by
    unfold iabs
    split <;> omega
  have l2 : iabs op ≤ D.s.n := by omega
  refine .seq (.ifT (EvT.see (i := 0) (c := !decide (op = opOn D.s (iabs op))) rfl hD.rep (.test (.neI (.var rfl) (.lkM (.fldO (.var rfl) rfl (c_Desk T) (n_Desk_ulinks T)) (.cons (.abs (.var rfl)) .nil) ⟨D.s, iabs op, hw.wf, by omega, by omega, rfl, rfl⟩))) ?_))
  by_cases h : op = opOn D.s (iabs op)
  · rw [decide_eq_true h, if_neg (by simp)]
    refine .nil ?_
    have hL : Leg D.s op := ⟨l1, l2, h⟩
    refine .seq (.asg (.of (EvF.see (i := 0) rfl hD.rep (.call (.cons (.fldO (.var rfl) rfl (c_Desk T) (n_Desk_ulinks T)) (.cons (.var rfl) (.cons (.fldO (.var rfl) rfl (c_Desk T) (n_Desk_umode T)) .nil))) ⟨D.k, D.s, op, hw.k0, hw.k1, hw.wf, hL, rfl, rfl⟩) rfl ?_)))
    refine .seq (.ifB (.test (.neS (.var rfl) .str)) (fun e => ?_) (fun e => .nil ?_))
    · refine .raiseO (x := "Refused") (ws := [.int op, .int ix, .str (refT D.s op D.k)]) (ds := [.i op, .i ix, .s (refT D.s op D.k)]) (.cons (.var rfl) (.cons (.var rfl) (.cons (.var rfl) .nil))) (fun G vs r => by
        obtain ⟨a, ws, rfl, r1, t1⟩ := r.uncons
        obtain ⟨b, c, rfl, r2, r3⟩ := t1.two
        rw [r1.int_inv, r2.int_inv, r3.str_inv]) rfl (by decide) (hE ("Refused", _) ?_)
      unfold jd
      rw [if_neg z0, if_neg (by simpa using h), if_pos (by simpa using e)]
    · have e : refT D.s op D.k = "" := by simpa using e
      refine .ifT (EvT.see (i := 0) (c := decide (D.cap ≤ (D.log.length : Int))) rfl hD.rep (by
        have z := EvD.len (K := K) (ss := [some D.V, some (.i op), some (.i ix), some (.s (refT D.s op D.k))]) (te := tFld K (tVar 0) "_log") (es := D.log.map DV.i) (.fldO (.var rfl) rfl (c_Desk T) (n_Desk_ulog T))
        rw [List.length_map] at z
        exact .test (.ge z (.fldO (.var rfl) rfl (c_Desk T) (n_Desk_capacity T)))) ?_)
      by_cases hc : D.cap ≤ (D.log.length : Int)
      · rw [decide_eq_true hc, if_pos rfl]
        refine RnX.raiseOF (x := "Full") (ws := [.int D.cap]) (ds := [.i D.cap]) (EvA.see (i := 0) rfl hD.rep (.cons (.fldO (.var rfl) rfl (c_Desk T) (n_Desk_capacity T)) .nil) rfl ⟨rfl, rfl⟩) (fun G vs r => by
          obtain ⟨a, rfl, r1⟩ := r.one
          rw [r1.int_inv]) rfl (by decide) (hE ("Full", _) ?_)
        unfold jd
        rw [if_neg z0, if_neg (by simpa using h), if_neg (by simpa using e), if_pos hc]
      · rw [decide_eq_false hc, if_neg (by simp)]
        refine .nil (hN ?_)
        unfold jd
        rw [if_neg z0, if_neg (by simpa using h), if_neg (by simpa using e), if_neg hc]
  · rw [decide_eq_false h, if_pos (by rfl)]
    refine .raiseO (x := "Illegal") (ws := [.int op, .int ix]) (ds := [.i op, .i ix]) (.cons (.var rfl) (.cons (.var rfl) .nil)) (fun G vs r => by
      obtain ⟨a, b, rfl, r1, r2⟩ := r.two
      rw [r1.int_inv, r2.int_inv]) rfl (by decide) (hE ("Illegal", _) ?_)
    unfold jd
    rw [if_neg z0, if_pos h]
    rfl

theorem jd_leg {D : Dk} {op ix : Int} (hw : DkW D) (h : jd D op ix = none) : Leg D.s op ∧ D.log.length < D.cap := by
  have nn := hw.sn
  unfold jd at h
  split at h
  · cases h
  · rename_i z0
    split at h
    · cases h
    · rename_i h1
      split at h
      · cases h
      · split at h
        · cases h
        · rename_i hc
          refine ⟨⟨?_, by omega, by simpa using h1⟩, by omega⟩
          unfold iabs
          split <;> omega

theorem okx_Desk_udo_at (T : TX K mg) : FnR PW w K mg base (L2.CX PW w) 19 (mA "Desk" "_do_at" K) (PDX K (px_doat K)) := by
  obtain ⟨fd, F⟩ := f_Desk_udo_at T
  refine fnX_of F n_Desk_udo_at (F.bindsN fun _ _ _ _ _ _ us hl => match us, hl with | [_, _, _], _ => rfl) (fun ds F P PE ⟨_, _, _, _, _, e, _⟩ => by rw [e]; rfl) fun cdv A outer s H E hr => ⟨_,
    (pss_cons (ps_set (i := 3) n_Desk_udo_at.nd rfl (by first | exact .inl rfl | exact .inr rfl) (pe_callB call_len_seq (by rfl) (b_len T) boot_len' (pa_cons (pe_fld (pv 0) rfl) pa_nil)))
      (pss_cons (ps_expr (pe_methE (pv 0) (c_Desk T) (m_Desk_ujudge T) (okx_Desk_ujudge T) (hr.mono (by decide)) (atX (takes_of rfl rfl rfl rfl)) (pa_cons (pv 1) (pa_cons (pv 2) pa_nil))))
      (pss_cons (ps_expr (pe_methE (pv 0) (c_Desk T) (m_Desk_uwrite T) (ok_Desk_uwrite T) (hr.mono (by decide)) at0 (pa_cons (pv 1) pa_nil)))
      (pss_one (ps_expr (pe_methE (pv 0) (c_Desk T) (m_Desk_uclose_step T) (ok_Desk_uclose_step T) (hr.mono (by decide)) at0 (pa_cons (pv 3) pa_nil))))))), fun ds F P PE h gF => ?_⟩
  obtain ⟨d, A, D, op, ix, rfl, hD, hw, hE, hN⟩ := h
  have zl := hw.lz
  have zs := hw.sz
  refine .seq (.asg (.of (EvF.see (i := 0) (d := .i D.log.length) rfl hD.rep (by
    have z := EvD.len (K := K) (ss := [some D.V, some (.i op), some (.i ix), none]) (te := tFld K (tVar 0) "_log") (es := D.log.map DV.i) (.fldO (.var rfl) rfl (c_Desk T) (n_Desk_ulog T))
    rw [List.length_map] at z
    exact z) rfl ?_)))
  refine .seq (.drop (EvX.meth (.var rfl) hD.od rfl (.eva (.cons (.var rfl) (.cons (.var rfl) .nil)) ⟨d, A, D, op, ix, rfl, hD, hw, hE, fun hn => ?_⟩)))
  obtain ⟨hL, hc⟩ := jd_leg hw hn
  refine .seq (.drop (.of (EvF.meth (.var rfl) hD.od rfl (.eva (.cons (.var rfl) .nil) ⟨d, A, D, op, rfl, hD, hw.wf, hL, by omega, ?_⟩))))
  have h2 := hD.wr op
  exact .drop (.of (EvF.meth (.var rfl) h2.od rfl (.eva (.cons (.var rfl) .nil) ⟨d, A, wr D op, D.log.length, rfl, h2, wf_aft hw.wf hL, by show D.starts.length < 16777216; omega, fun F' A' h3 => hN hn F' A' h3⟩)))

theorem okx_Desk_do (T : TX K mg) : FnR PW w K mg base (L2.CX PW w) 20 (mA "Desk" "do" K) (PDX K (px_do K)) := by
  obtain ⟨fd, F⟩ := f_Desk_do T
  refine fnX_of F n_Desk_do (F.bindsN fun _ _ _ _ _ _ us hl => match us, hl with | [_, _], _ => rfl) (fun ds F P PE ⟨_, _, _, _, e, _⟩ => by rw [e]; rfl) fun cdv A outer s H E hr => ⟨_,
    (pss_one (ps_expr (pe_methE (pv 0) (c_Desk T) (m_Desk_udo_at T) (okx_Desk_udo_at T) (hr.mono (by decide)) (atX (takes_of rfl rfl rfl rfl)) (pa_cons (pv 1) (pa_cons pe_int pa_nil))))), fun ds F P PE h gF => ?_⟩
  obtain ⟨d, A, D, op, rfl, hD, hw, hE, hN⟩ := h
  exact .drop (EvX.meth (.var rfl) hD.od rfl (.eva (.cons (.var rfl) (.cons .int .nil)) ⟨d, A, D, op, 0, rfl, hD, hw, hE, hN⟩))

theorem ok_Desk_log (T : TX K mg) : FnR PW w K mg base CX0 1 (mA "Desk" "log" K) (PD K (ph_log K)) := by
  obtain ⟨fd, F⟩ := f_Desk_log T
  refine fnD_of F n_Desk_log (F.bindsN fun _ _ _ _ _ _ us hl => match us, hl with | [_], _ => rfl) (fun ds F P ⟨_, _, _, e, _⟩ => by rw [e]; rfl) fun cdv A outer s H E hr => ⟨_, PSs.nox
    (pss_one (ps_ret (pe_callTy call_list_of (by rfl) (b_list T) boot_list' (pa_cons (pe_fld (pv 0) rfl) pa_nil)))), fun ds F P h gF => ?_⟩
  obtain ⟨d, A, D, rfl, hD, hP⟩ := h
  exact .ret (.listFF (.fldM (.var rfl) hD.od (c_Desk T) (n_Desk_ulog T) rfl) hD.og hP)

theorem ok_Desk_links (T : TX K mg) : FnR PW w K mg base CX0 6 (mA "Desk" "links" K) (PD K (ph_links K)) := by
  obtain ⟨fd, F⟩ := f_Desk_links T
  refine fnD_of F n_Desk_links (F.bindsN fun _ _ _ _ _ _ us hl => match us, hl with | [_], _ => rfl) (fun ds F P ⟨_, _, _, e, _⟩ => by rw [e]; rfl) fun cdv A outer s H E hr => ⟨_, PSs.nox
    (pss_one (ps_ret (pe_methE0 (pe_fld (pv 0) rfl) (c_Links T) (m_Links_copy T) (ok_Links_copy T) (hr.mono (by decide)) at0))), fun ds F P h gF => ?_⟩
  obtain ⟨d, A, D, rfl, hD, hW, hP⟩ := h
  exact .ret (.methFresh (.fldM (.var rfl) hD.od (c_Desk T) (n_Desk_ulinks T) rfl) hD.ok.oa rfl hD.ok.rep ⟨D.s, hW, rfl, fun a F0 N0 => ⟨rfl, fun dj g0 => hP a F0 N0 dj g0⟩⟩)

theorem ok_Desk_length (T : TX K mg) : FnR PW w K mg base CX0 1 (pA "Desk" "length" K) (PD K (ph_length K)) := by
  obtain ⟨fd, F⟩ := f_Desk_length T
  refine fnD_of F n_Desk_length (F.bindsN fun _ _ _ _ _ _ us hl => match us, hl with | [_], _ => rfl) (fun ds F P ⟨_, _, _, e, _⟩ => by rw [e]; rfl) fun cdv A outer s H E hr => ⟨_, PSs.nox
    (pss_one (ps_ret (pe_callB call_len_seq (by rfl) (b_len T) boot_len' (pa_cons (pe_fld (pv 0) rfl) pa_nil)))), fun ds F P h gF => ?_⟩
  obtain ⟨d, A, D, rfl, hD, hP⟩ := h
  refine .ret (EvF.see (i := 0) rfl hD.rep (d := .i D.log.length) (by
    have z := EvD.len (K := K) (ss := [some D.V]) (te := tFld K (tVar 0) "_log") (es := D.log.map DV.i) (.fldO (.var rfl) rfl (c_Desk T) (n_Desk_ulog T))
    rw [List.length_map] at z
    exact z) rfl hP)

theorem ok_Desk_debt (T : TX K mg) : FnR PW w K mg base CX0 8 (pA "Desk" "debt" K) (PD K (ph_ddebt K)) := by
  obtain ⟨fd, F⟩ := f_Desk_debt T
  refine fnD_of F n_Desk_debt (F.bindsN fun _ _ _ _ _ _ us hl => match us, hl with | [_], _ => rfl) (fun ds F P ⟨_, _, _, e, _⟩ => by rw [e]; rfl) fun cdv A outer s H E hr => ⟨_, PSs.nox
    (pss_one (ps_ret (pe_callR (ok_settled_debt T) (hr.mono (by decide)) rfl (g_settled_debt T) (k_settled_debt T) at0 (pa_cons (pe_fld (pv 0) rfl) pa_nil)))), fun ds F P h gF => ?_⟩
  obtain ⟨d, A, D, rfl, hD, hW, hP⟩ := h
  exact .ret (EvF.see (i := 0) rfl hD.rep (.call (.cons (.fldO (.var rfl) rfl (c_Desk T) (n_Desk_ulinks T)) .nil) ⟨D.s, hW, rfl, rfl⟩) (debt_flat D.s) hP)

theorem ok_Desk_mode (T : TX K mg) : FnR PW w K mg base CX0 1 (pA "Desk" "mode" K) (PD K (ph_mode1 K)) := by
  obtain ⟨fd, F⟩ := f_Desk_mode T
  refine fnD_of F n_Desk_mode (F.bindsN fun _ _ _ _ _ _ us hl => match us, hl with | [_], _ => rfl) (fun ds F P ⟨_, _, _, e, _⟩ => by rw [e]; rfl) fun cdv A outer s H E hr => ⟨_, PSs.nox
    (pss_one (ps_ret (pe_fld (pv 0) rfl))), fun ds F P h gF => ?_⟩
  obtain ⟨d, A, D, rfl, hD, hP⟩ := h
  exact .ret (EvF.see (i := 0) rfl hD.rep (.fldO (.var rfl) rfl (c_Desk T) (n_Desk_umode T)) rfl hP)

end
end Lay
end
section
set_option Elab.async false
set_option linter.all false
set_option autoImplicit false
set_option maxRecDepth 100000
set_option maxHeartbeats 4000000
/-! own layer S: the desk's steps taken back and done again -/
namespace Lay
open PySem PySem.Spec PyProof.Rows L2
theorem LkP.same {K : PySem.W.Frag} {F F' : Hp} {a dx l r f : Addr} {s : St} (h : LkP K F a dx l r f s) (e : Same F F') : LkP K F' a dx l r f s := ⟨e _ _ h.oa, e _ _ h.ol, e _ _ h.or, e _ _ h.of, h.lr, h.lf, h.rf⟩
section
variable {K : PySem.W.Frag} {F F' : Hp} {d : Addr} {A : DA} {D : Dk}
theorem DkP.same (h : DkP K F d A D) (e : Same F F') : DkP K F' d A D :=
  ⟨e _ _ h.od, e _ _ h.og, h.ok.same e, e _ _ h.os, e _ _ h.ou, h.ul, fun i a xs h1 h2 => e _ _ (h.ut i a xs h1 h2), h.gs, h.gu, h.gl, h.gr, h.gf, h.su, h.sl, h.sr, h.sf, h.ul', h.ur, h.uf⟩
theorem DkP.kd (h : DkP K F d A D) : A.lk ≠ d := fun z => by
  have h1 := h.od
  rw [← z, h.ok.oa] at h1
  have h2 := congrArg (fun o : Option HO => match o with | some (.ins _ _ fs) => fs.length | _ => 0) h1
  simp at h2
theorem DkP.td (h : DkP K F d A D) {i : Nat} {a : Addr} (hi : A.ua[i]? = some a) : a ≠ d := fun z => by
  have hl : i < D.und.length := by rw [← h.ul]; exact (List.getElem?_eq_some_iff.mp hi).1
  have := h.ut i a _ hi (List.getElem?_eq_getElem hl)
  rw [z, h.od] at this
  cases this
/-- the undone steps change -/
theorem DkP.setUnd (h : DkP K F d A D) (ua' : List Addr) (und' : List (List Int)) (hl : ua'.length = und'.length) (ht : ∀ (i : Nat) (a : Addr) (xs : List Int), ua'[i]? = some a → und'[i]? = some xs → F a = some (.tup (xs.map V.int))) :
    DkP K (upd F A.un (.lst (ua'.map V.ref))) d { A with ua := ua' } { D with und := und' } := by
  refine ⟨?_, ?_, ⟨?_, ?_, ?_, ?_, h.ok.lr, h.ok.lf, h.ok.rf⟩, ?_, upd_same, hl, fun i a xs h1 h2 => ?_, h.gs, h.gu, h.gl, h.gr, h.gf, h.su, h.sl, h.sr, h.sf, h.ul', h.ur, h.uf⟩
  · rw [upd_ne (Ne.symm (h.ne h.ou))]; exact h.od
  · rw [upd_ne h.gu]; exact h.og
  · rw [upd_ne (Ne.symm (h.neK h.ou))]; exact h.ok.oa
  · rw [upd_ne (Ne.symm h.ul')]; exact h.ok.ol
  · rw [upd_ne (Ne.symm h.ur)]; exact h.ok.or
  · rw [upd_ne (Ne.symm h.uf)]; exact h.ok.of
  · rw [upd_ne h.su]; exact h.os
  · have q := ht i a xs h1 h2
    rw [upd_ne (fun z => by rw [z, h.ou] at q; cases q)]
    exact q
/-- another log -/
theorem DkP.newLog (h : DkP K F d A D) {q : Addr} (log' : List Int) (hq : F q = some (.lst (log'.map V.int))) (h1 : q ≠ A.st) (h2 : q ≠ A.un) (h3 : q ≠ A.l) (h4 : q ≠ A.r) (h5 : q ≠ A.f) :
    DkP K (upd F d (.ins (He.ga K "Desk") A.dx (putF "_log" (.ref q) (deskFs A D)))) d { A with lg := q } { D with log := log' } := by
  have k : ∀ {p o}, F p = some o → p ≠ d → upd F d (.ins (He.ga K "Desk") A.dx (putF "_log" (.ref q) (deskFs A D))) p = some o := fun e hp => by rw [upd_ne hp]; exact e
  exact ⟨by rw [upd_same]; rfl, k hq (h.ne hq), ⟨k h.ok.oa h.kd, k h.ok.ol (h.ne h.ok.ol), k h.ok.or (h.ne h.ok.or), k h.ok.of (h.ne h.ok.of), h.ok.lr, h.ok.lf, h.ok.rf⟩, k h.os (h.ne h.os), k h.ou (h.ne h.ou), h.ul, fun i a xs e1 e2 => k (h.ut i a xs e1 e2) (h.td e1), h1, h2, h3, h4, h5, h.su, h.sl, h.sr, h.sf, h.ul', h.ur, h.uf⟩
/-- other links -/
theorem DkP.newLinks (h : DkP K F d A D) {a dx l r f : Addr} {s : St} (L : LkP K F a dx l r f s) (hl : l ≠ A.lg ∧ l ≠ A.st ∧ l ≠ A.un) (hr : r ≠ A.lg ∧ r ≠ A.st ∧ r ≠ A.un) (hf : f ≠ A.lg ∧ f ≠ A.st ∧ f ≠ A.un) (hs : s.n = D.n) :
    DkP K (upd F d (.ins (He.ga K "Desk") A.dx (putF "_links" (.ref a) (deskFs A D)))) d { A with lk := a, dxl := dx, l := l, r := r, f := f } { D with s := s } := by
  have k : ∀ {p o}, F p = some o → p ≠ d → upd F d (.ins (He.ga K "Desk") A.dx (putF "_links" (.ref a) (deskFs A D))) p = some o := fun e hp => by rw [upd_ne hp]; exact e
  have ad : a ≠ d := fun z => by
    have h1 := h.od
    rw [← z, L.oa] at h1
    have h2 := congrArg (fun o : Option HO => match o with | some (.ins _ _ fs) => fs.length | _ => 0) h1
    simp at h2
  exact ⟨by rw [upd_same]; rfl, k h.og (h.ne h.og), ⟨k L.oa ad, k L.ol (h.ne L.ol), k L.or (h.ne L.or), k L.of (h.ne L.of), L.lr, L.lf, L.rf⟩, k h.os (h.ne h.os), k h.ou (h.ne h.ou), h.ul, fun i a xs e1 e2 => k (h.ut i a xs e1 e2) (h.td e1), h.gs, h.gu, Ne.symm hl.1, Ne.symm hr.1, Ne.symm hf.1, h.su, Ne.symm hl.2.1, Ne.symm hr.2.1, Ne.symm hf.2.1, Ne.symm hl.2.2, Ne.symm hr.2.2, Ne.symm hf.2.2⟩
end
theorem cutV_drop {xs : List V} {i : Nat} (h : i ≤ xs.length) : cutV xs (some (i : Int)) none = xs.drop i := by
  unfold cutV
  have e1 : HT.sIx xs.length 0 (some (i : Int)) = i := by
    unfold HT.sIx
    simp
    split <;> omega
  have e2 : HT.sIx xs.length xs.length none = xs.length := rfl
  rw [e1, e2]
  exact List.take_of_length_le (by rw [List.length_drop] <;> omega)
theorem cutV_take {xs : List V} {i : Nat} (h : i ≤ xs.length) : cutV xs none (some (i : Int)) = xs.take i := by
  unfold cutV
  have e1 : HT.sIx xs.length xs.length (some (i : Int)) = i := by
    unfold HT.sIx
    simp
    split <;> omega
  have e2 : HT.sIx xs.length 0 none = 0 := rfl
  rw [e1, e2, List.drop_zero, Nat.sub_zero]
section
variable {K : PySem.W.Frag} {te ta tb tl : TE} {ts tr : TS} {tas : TA} {ss : List (Option DV)} {F : Hp} {P : DV → Hp → Prop} {d : DV} {N : List (Option DV) → Hp → Prop} {R : DV → Hp → Prop}
theorem EvF.fldFF {p C dx : Addr} {fs : List (Str × V)} {f : Str} {v : V} (ha : EvF K ta ss F fun d F' => d = .m p ∧ F' = F) (hF : F p = some (.ins C dx fs)) (c : Cls K C) (na : NoAttr K C f) (hf : fs.lookup f = some v) (hv : flat0 v) (q : P (up v) F) : EvF K (tFld K ta f) ss F P := fun σ G o Q go => ha σ G o _ fun x d1 G1 F1 g1 rx ⟨e1, e2⟩ => by
  subst e1 e2
  obtain rfl := rx.m_inv
  have hG : G1 p = none := (g1.dj p).resolve_right fun z => by rw [hF] at z; cases z
  exact ⟨p, C, dx, fs, v, rfl, by rw [joi_r hG]; exact hF, c, na, hf, go v (up v) G1 F1 g1 (Rep.up hv) q⟩
/-- for x in a tuple of ints in F -/
theorem RnF.forTupF {i : Nat} {a : Addr} {xs : List Int} (Iv : Nat → List (Option DV) → Hp → Prop) (h : EvF K te ss F fun d F1 => d = .m a ∧ Iv 0 ss F1) (hk : ∀ k ss' F', Iv k ss' F' → F' a = some (.tup (xs.map V.int))) (hs : ∀ k x ss' F', xs[k]? = some x → Iv k ss' F' → RnF K ts (ss'.set i (some (.i x))) F' (Iv (k + 1)) R) (hd : ∀ ss' F', Iv xs.length ss' F' → N ss' F') :
    RnF K (tFor (iTup K te) (gName i) ts) ss F N R := fun σ G o D nx rt => h σ G o _ fun v d G1 F1 g r ⟨e, h0⟩ => by
  subst e
  obtain rfl := r.m_inv
  have gp : ∀ {G' F' k ss'}, Disj G' F' → Iv k ss' F' → SqT K (joi G' F') a (xs.map V.int) := fun {G' F' k ss'} dj p => by
    have e := hk _ _ _ p
    have hG : G' a = none := (dj a).resolve_right fun z => by rw [e] at z; cases z
    exact .of (by rw [joi_r hG]; exact e)
  refine ⟨a, rfl, ⟨_, gp g.dj h0⟩, ?_⟩
  refine for_tup (xs := xs.map V.int) (fun k σ' H' => ∃ ss' G' F', Gr G1 G' F' ∧ Sg K G' σ' ss' ∧ H' = joi G' F' ∧ Iv k ss' F') ⟨ss, G1, F1, (o.gr g).refl, (o.gr g).sg, rfl, h0⟩ (fun k σ' H' hk ⟨ss', G', F', g2, s, e, p⟩ => ?_) (fun k x σ' H' hx ⟨ss', G', F', g2, s, e, p⟩ => ?_) fun σ' H' ⟨ss', G', F', g2, s, e, p⟩ => ?_
  · subst e
    exact gp g2.dj p
  · subst e
    rw [List.getElem?_map] at hx
    cases hg : xs[k]? with
    | none => rw [hg] at hx; cases hx
    | some y =>
      rw [hg] at hx
      cases hx
      exact hs k y ss' F' hg p _ G' ⟨s.set (.i y), g2.dj, g2.gG, g2.gF⟩ _ (fun σ2 ss2 G2 F2 g3 s2 p2 => ⟨ss2, G2, F2, g2.trans g3, s2, rfl, p2⟩) ((rt.gr g).gr g2)
  · subst e
    rw [List.length_map] at p
    exact nx σ' ss' G' F' (g.trans g2) s (hd _ _ p)
end
/-! ### a Trial -/
/-- what it holds of a desk -/
structure TrP (K : PySem.W.Frag) (F : Hp) (t dxt d q a : Addr) : Prop where
  ot : F t = some (.ins (He.ga K "Trial") dxt [("desk", .ref d), ("held_log", .ref q), ("held_links", .ref a)])
structure TrH (K : PySem.W.Frag) (F : Hp) (t dxt d : Addr) (log : List Int) (s : St) : Prop where
  ex : ∃ q a dx l r f, TrP K F t dxt d q a ∧ F q = some (.lst (log.map V.int)) ∧ LkP K F a dx l r f s ∧ q ≠ l ∧ q ≠ r ∧ q ≠ f
end Lay
end
section
set_option Elab.async false
set_option linter.all false
set_option autoImplicit false
set_option maxRecDepth 100000
set_option maxHeartbeats 4000000
namespace Lay
open PySem PySem.Spec PyProof.Rows L2


def px_undo (KK : PySem.W.Frag) : PhX := fun ds F P PE => ∃ d A D, ds = [.m d] ∧ DkP KK F d A D ∧ DkW D ∧ (D.starts = [] → PE "NothingToUndo" [] F) ∧
  ∀ sts x, D.starts = sts ++ [x] → ∃ (i : Nat) (s' : St), x = (i : Int) ∧ i ≤ D.log.length ∧ Runs (St0 D.n) (D.log.take i) s' ∧
    ∀ F' A', DkP KK F' d A' { D with starts := sts, und := D.und ++ [D.log.drop i], log := D.log.take i, s := s' } → P .n F'
def px_redo (KK : PySem.W.Frag) : PhX := fun ds F P PE => ∃ d A D, ds = [.m d] ∧ DkP KK F d A D ∧ DkW D ∧ (D.und = [] → PE "NothingToRedo" [] F) ∧
  ∀ us xs, D.und = us ++ [xs] → xs.length ≤ 2000 ∧ ∃ s' : St, Runs D.s xs s' ∧ ∀ F' A', DkP KK F' d A' { D with starts := D.starts ++ [(D.log.length : Int)], und := us, log := D.log ++ xs, s := s' } → P .n F'
section
variable {w : World} {K : PySem.W.Frag} {mg : Str → Option Value} {base : Heap}

theorem okx_Desk_undo (T : TX K mg) : FnR PW w K mg base (L2.CX PW w) 13 (mA "Desk" "undo" K) (PDX K (px_undo K)) := by
  obtain ⟨fd, F⟩ := f_Desk_undo T
  refine fnX_of F n_Desk_undo (F.bindsN fun _ _ _ _ _ _ us hl => match us, hl with | [_], _ => rfl) (fun ds F P PE ⟨_, _, _, e, _⟩ => by rw [e]; rfl) fun cdv A outer s H E hr => ⟨_,
    (pss_cons (ps_if (pt_not (pt_truth (pe_fld (pv 0) rfl) (by intro _; rfl))) (pss_one (ps_raise rfl (takes_of rfl rfl rfl rfl) (pmk_own0 PySem.F.excBase_ValueError (ex_NothingToUndo T).1 (g_NothingToUndo T) (ex_NothingToUndo T).2.1 (raises_own (ex_NothingToUndo T).2.2.1 (ex_NothingToUndo T).2.2.2) rfl))) pss_nil)
      (pss_cons (ps_set (i := 1) n_Desk_undo.nd rfl (by first | exact .inl rfl | exact .inr rfl) (pe_bm0 PySem.F.plainAttrs_list PySem.F.slot_list_pop PySem.F.type_list_pop mt_pop (pe_fld (pv 0) rfl)))
      (pss_cons (ps_expr (pe_bm PySem.F.plainAttrs_list PySem.F.slot_list_append PySem.F.type_list_append mt_append (pe_fld (pv 0) rfl) (pa_cons (pe_callTy call_tuple_of (by rfl) (b_tuple T) boot_tuple' (pa_cons (pe_slice sl_list (pe_fld (pv 0) rfl) (po_some (pv 1)) po_none) pa_nil)) pa_nil)))
      (pss_cons (ps_fld (pv 0) (pe_slice sl_list (pe_fld (pv 0) rfl) po_none (po_some (pv 1))) rfl)
      (pss_one (ps_fld (pv 0) (pe_callR (ok_replay T) (hr.mono (by decide)) rfl (g_replay T) (k_replay T) at0 (pa_cons (pe_fld (pv 0) rfl) (pa_cons (pe_fld (pv 0) rfl) pa_nil))) rfl)))))), fun ds F P PE h gF => ?_⟩
  obtain ⟨d, A, D, rfl, hD, hw, hE, hN⟩ := h
  have zl := hw.lz
  have zu := hw.uz
  rcases List.eq_nil_or_concat D.starts with hs | ⟨sts, x, hs⟩
  · refine .seq (.ifT (EvT.see (i := 0) (c := !(!(D.starts.map DV.i).isEmpty)) rfl hD.rep (.not (.truth (.fldO (.var rfl) rfl (c_Desk T) (n_Desk_ustarts T)))) ?_))
    rw [hs]
    exact .raise0 (x := "NothingToUndo") (hE hs)
  refine .seq (.ifT (EvT.see (i := 0) (c := !(!(D.starts.map DV.i).isEmpty)) rfl hD.rep (.not (.truth (.fldO (.var rfl) rfl (c_Desk T) (n_Desk_ustarts T)))) ?_))
  have hs : D.starts = sts ++ [x] := by rw [hs, List.concat_eq_append]
  rw [hs]
  rw [show (!(!((sts ++ [x]).map DV.i).isEmpty)) = false by simp, if_neg (by simp)]
  refine .nil (.of ?_)
  obtain ⟨i, s', hx, hi, hR, hN⟩ := hN sts x hs
  subst hx
  refine .seq (.asg (EvF.popF (v := .int (i : Int)) (.fldM (.var rfl) hD.od (c_Desk T) (n_Desk_ustarts T) rfl) hD.os (by rw [hs]; simp) True.intro ?_))
  have e1 : (D.starts.map V.int).dropLast = sts.map V.int := by rw [hs]; simp
  rw [e1]
  have h1 := hD.setStarts sts
  have hll : i ≤ (D.log.map V.int).length := by rw [List.length_map]; exact hi
  refine .seq (RnF.appendFF (.fldM (.var rfl) h1.od (c_Desk T) (n_Desk_uundone T) rfl) h1.ou (.tupF (.sliceF (.fldM (.var rfl) h1.od (c_Desk T) (n_Desk_ulog T) rfl) (.some (.var rfl)) .no h1.og fun q hq => ⟨_, _, rfl, upd_same, fun t ht => ⟨rfl, _, by
    rw [upd_ne (ne_of_none (by rw [upd_ne (ne_of_none h1.ou hq)]; exact h1.ou) ht), upd_ne (ne_of_none h1.ou hq)]
    exact h1.ou, by rw [List.length_map, hD.ul]; omega, ?_⟩⟩)))
  rw [cutV_drop hll, ← List.map_drop] at ht ⊢
  have hq1 : ∀ {p o}, upd F A.st (.lst (sts.map V.int)) p = some o → upd (upd (upd F A.st (.lst (sts.map V.int))) q (.lst ((D.log.drop i).map V.int))) t (.tup ((D.log.drop i).map V.int)) p = some o := fun {p o} e => by
    have eq : p ≠ q := ne_of_none e hq
    have et : p ≠ t := ne_of_none (show upd (upd F A.st (.lst (sts.map V.int))) q (.lst ((D.log.drop i).map V.int)) p = some o by rw [upd_ne eq]; exact e) ht
    rw [upd_ne et, upd_ne eq]
    exact e
  have h2 := (h1.same fun p o e => hq1 e).setUnd (A.ua ++ [t]) (D.und ++ [D.log.drop i]) (by simp [hD.ul]) (fun j a xs e1 e2 => by
    by_cases hj : j < A.ua.length
    · rw [List.getElem?_append_left hj] at e1
      rw [List.getElem?_append_left (by rw [← hD.ul]; exact hj)] at e2
      exact hq1 (h1.ut j a xs e1 e2)
    · rw [List.getElem?_append_right (by omega)] at e1
      rw [List.getElem?_append_right (by rw [← hD.ul]; omega), ← hD.ul] at e2
      have hz : j - A.ua.length = 0 := by
        have := (List.getElem?_eq_some_iff.mp e1).1
        simp at this
        omega
      rw [hz] at e1 e2
      have e1 : t = a := by simpa using e1
      have e2 : D.log.drop i = xs := by simpa using e2
      rw [← e1, ← e2]
      exact upd_same)
  have ea : (A.ua ++ [t]).map V.ref = A.ua.map V.ref ++ [vl (.m t)] := by rw [List.map_append]; rfl
  rw [ea] at h2
  refine .seq (RnF.mono (R := P) (N := fun ss' F' => ss' = [some (.m d), some (.i (i : Int))] ∧ ∃ A3, DkP K F' d A3 { D with starts := sts, und := D.und ++ [D.log.drop i], log := D.log.take i }) (.fldSet (.sliceF (.fldM (.var rfl) h2.od (c_Desk T) (n_Desk_ulog T) rfl) .no (.some (.var rfl)) h2.og fun q2 hq2 => ⟨rfl, A.dx, _, by rw [upd_ne (ne_of_none h2.od hq2)]; exact h2.od, Nat.le_of_ble_eq_true rfl, ?_⟩) (.var rfl) (c_Desk T) (n_Desk_ulog T)) (fun ss' F' ⟨e, A3, h3⟩ => ?_) (fun _ _ z => z))
  · have n2 : ∀ {p o}, upd (upd (upd (upd F A.st (.lst (sts.map V.int))) q (.lst ((D.log.drop i).map V.int))) t (.tup ((D.log.drop i).map V.int))) A.un (.lst (A.ua.map V.ref ++ [vl (.m t)])) p = some o → q2 ≠ p := fun e z => by rw [← z, hq2] at e; cases e
    rw [cutV_take hll, ← List.map_take]
    exact ⟨rfl, _, (h2.same (F' := upd (upd (upd (upd (upd F A.st (.lst (sts.map V.int))) q (.lst ((D.log.drop i).map V.int))) t (.tup ((D.log.drop i).map V.int))) A.un (.lst (A.ua.map V.ref ++ [vl (.m t)]))) q2 (.lst ((D.log.take i).map V.int))) fun p o e => by rw [upd_ne (Ne.symm (n2 e))]; exact e).newLog (D.log.take i) upd_same (n2 h2.os) (n2 h2.ou) (n2 h2.ok.ol) (n2 h2.ok.or) (n2 h2.ok.of)⟩
  subst e
  refine .fldSet (.fresh (.cons (EvF.see (i := 0) (d := .i D.n) rfl h3.rep (.fldO (.var rfl) rfl (c_Desk T) (n_Desk_size T)) rfl (.cons (.mono (.fldM (.var rfl) h3.od (c_Desk T) (n_Desk_ulog T) rfl) fun d0 F0 ⟨e1, e2⟩ => .nil ⟨e2, [.i D.n, .l ((D.log.take i).map DV.i)], fun G dj vs r => ?_, ⟨D.n, D.log.take i, s', rfl, hw.n0, hw.n1, hR, fun a F1 ⟨⟨dxl, l, r, f, L, _⟩, _⟩ => ⟨rfl, fun dj g1 => ⟨rfl, A3.dx, _, joi_l h3.od, Nat.le_of_ble_eq_true rfl, hN _ { A3 with lk := a, dxl := dxl, l := l, r := r, f := f } ?_⟩⟩⟩⟩))))) (.var rfl) (c_Desk T) (n_Desk_ulinks T)
  · subst e1 e2
    obtain ⟨v1, v2, rfl, r1, r2⟩ := r.two
    obtain rfl := r1.int_inv
    obtain rfl := r2.m_inv
    refine .cons (.i _) (.cons ?_ .nil)
    exact .l (by rw [joi_r ((dj A3.lg).resolve_right fun z => by rw [h3.og] at z; cases z)]; exact h3.og) (RepL.ints (K := K) (G := G)).1 RepL.ints.2
  · have nn : ∀ {p q : Addr} {o u : HO}, F' p = some o → F1 q = some u → q ≠ p := fun {p q o u} e1 e2 z => by
      rcases dj q with y | y
      · rw [z, e1] at y; cases y
      · rw [e2] at y; cases y
    exact (h3.same same_joi).newLinks (L.same (same_joi_r dj)) ⟨nn h3.og L.ol, nn h3.os L.ol, nn h3.ou L.ol⟩ ⟨nn h3.og L.or, nn h3.os L.or, nn h3.ou L.or⟩ ⟨nn h3.og L.of, nn h3.os L.of, nn h3.ou L.of⟩ ((hR.wf (wf0 hw.n0 hw.n1)).2)

end
end Lay
end
section
set_option Elab.async false
set_option linter.all false
set_option autoImplicit false
set_option maxRecDepth 100000
set_option maxHeartbeats 4000000
namespace Lay
open PySem PySem.Spec PyProof.Rows L2


theorem EvF.meth0 {K : PySem.W.Frag} {ta : TE} {ss : List (Option DV)} {F : Hp} {P : DV → Hp → Prop} {E : L2.St → XK} {Φ : Ph} {p C dx : Addr} {fs : List (Str × V)} {m : Str} (ha : EvD K ta ss (.m p)) (hF : F p = some (.ins C dx fs)) (hm : fs.lookup m = none) (hΦ : Φ [.m p] F P) : EvF K (tMethE C m (PD K Φ) E ta tNil) ss F P := .meth ha hF hm (.nil hΦ)
section
variable {w : World} {K : PySem.W.Frag} {mg : Str → Option Value} {base : Heap}
theorem wrF_ne {F : Hp} {A : DA} {D : Dk} {op : Int} {b : Addr} (h1 : b ≠ A.l) (h2 : b ≠ A.r) (h3 : b ≠ A.f) (h4 : b ≠ A.lg) : wrF F A D op b = F b := by
  unfold wrF
  rw [upd_ne h4, aftF_ne h1 h2 h3]

theorem okx_Desk_redo (T : TX K mg) : FnR PW w K mg base (L2.CX PW w) 14 (mA "Desk" "redo" K) (PDX K (px_redo K)) := by
  obtain ⟨fd, F⟩ := f_Desk_redo T
  refine fnX_of F n_Desk_redo (F.bindsN fun _ _ _ _ _ _ us hl => match us, hl with | [_], _ => rfl) (fun ds F P PE ⟨_, _, _, e, _⟩ => by rw [e]; rfl) fun cdv A outer s H E hr => ⟨_,
    (pss_cons (ps_if (pt_not (pt_truth (pe_fld (pv 0) rfl) (by intro _; rfl))) (pss_one (ps_raise rfl (takes_of rfl rfl rfl rfl) (pmk_own0 PySem.F.excBase_ValueError (ex_NothingToRedo T).1 (g_NothingToRedo T) (ex_NothingToRedo T).2.1 (raises_own (ex_NothingToRedo T).2.2.1 (ex_NothingToRedo T).2.2.2) rfl))) pss_nil)
      (pss_cons (ps_expr (pe_bm PySem.F.plainAttrs_list PySem.F.slot_list_append PySem.F.type_list_append mt_append (pe_fld (pv 0) rfl) (pa_cons (pe_callB call_len_seq (by rfl) (b_len T) boot_len' (pa_cons (pe_fld (pv 0) rfl) pa_nil)) pa_nil)))
      (pss_one (ps_for (passes_of rfl) rfl (pi_tup (pe_bm0 PySem.F.plainAttrs_list PySem.F.slot_list_pop PySem.F.type_list_pop mt_pop (pe_fld (pv 0) rfl))) (pg_name (i := 1) n_Desk_redo.nd rfl (by first | exact .inl rfl | exact .inr rfl)) (pss_one (ps_expr (pe_methE (pv 0) (c_Desk T) (m_Desk_uwrite T) (ok_Desk_uwrite T) (hr.mono (by decide)) at0 (pa_cons (pv 1) pa_nil)))))))), fun ds F P PE h gF => ?_⟩
  obtain ⟨d, A, D, rfl, hD, hw, hE, hN⟩ := h
  have zl := hw.lz
  have zu := hw.uz
  have zs := hw.sz
  rcases List.eq_nil_or_concat D.und with hs | ⟨us, xs, hs⟩
  · refine .seq (.ifT (EvT.see (i := 0) (c := !(!(D.und.map fun xs => DV.t (xs.map DV.i)).isEmpty)) rfl hD.rep (.not (.truth (.fldO (.var rfl) rfl (c_Desk T) (n_Desk_uundone T)))) ?_))
    rw [hs]
    exact .raise0 (x := "NothingToRedo") (hE hs)
  refine .seq (.ifT (EvT.see (i := 0) (c := !(!(D.und.map fun xs => DV.t (xs.map DV.i)).isEmpty)) rfl hD.rep (.not (.truth (.fldO (.var rfl) rfl (c_Desk T) (n_Desk_uundone T)))) ?_))
  have hs : D.und = us ++ [xs] := by rw [hs, List.concat_eq_append]
  rw [hs]
  rw [show (!(!((us ++ [xs]).map fun xs => DV.t (xs.map DV.i)).isEmpty)) = false by simp, if_neg (by simp)]
  refine .nil (.of ?_)
  obtain ⟨hz, s', hR, hN⟩ := hN us xs hs
  refine .seq (RnF.appendF (d := .i D.log.length) (.fldM (.var rfl) hD.od (c_Desk T) (n_Desk_ustarts T) rfl) (EvF.see (i := 0) rfl hD.rep (by
    have z := EvD.len (K := K) (ss := [some D.V, none]) (te := tFld K (tVar 0) "_log") (es := D.log.map DV.i) (.fldO (.var rfl) rfl (c_Desk T) (n_Desk_ulog T))
    rw [List.length_map] at z
    exact z) rfl ⟨rfl, rfl⟩) hD.os (by rw [List.length_map]; omega) rfl ?_)
  have e1 : (D.starts.map V.int) ++ [vl (.i D.log.length)] = (D.starts ++ [(D.log.length : Int)]).map V.int := by rw [List.map_append]; rfl
  rw [e1]
  have h1 := hD.setStarts (D.starts ++ [(D.log.length : Int)])
  have hua : A.ua ≠ [] := fun z => by
    have := hD.ul
    rw [z, hs] at this
    simp at this
  obtain ⟨as, a, hA⟩ : ∃ as a, A.ua = as ++ [a] := by
    rcases List.eq_nil_or_concat A.ua with z | ⟨as, a, z⟩
    · exact absurd z hua
    · exact ⟨as, a, by rw [z, List.concat_eq_append]⟩
  have hla : as.length = us.length := by
    have := hD.ul
    rw [hA, hs] at this
    simpa using this
  have ha : F a = some (.tup (xs.map V.int)) := hD.ut as.length a xs (by rw [hA]; simp) (by rw [hs, hla]; simp)
  have ha1 : upd F A.st (.lst ((D.starts ++ [(D.log.length : Int)]).map V.int)) a = some (.tup (xs.map V.int)) := by
    rw [upd_ne (fun z => by rw [z, hD.os] at ha; cases ha)]
    exact ha
  have h2 := h1.setUnd as us hla (fun j b ys e1 e2 => h1.ut j b ys (by
    rw [hA, List.getElem?_append_left (List.getElem?_eq_some_iff.mp e1).1]
    exact e1) (by
    show D.und[j]? = some ys
    rw [hs, List.getElem?_append_left (List.getElem?_eq_some_iff.mp e2).1]
    exact e2))
  have hdl : (A.ua.map V.ref).dropLast = as.map V.ref := by rw [hA]; simp
  refine RnF.forTupF (a := a) (xs := xs) (fun k ss' F' => (∃ o, ss' = [some (.m d), o]) ∧ F' a = some (.tup (xs.map V.int)) ∧ ∃ sk, Runs D.s (xs.take k) sk ∧ Runs sk (xs.drop k) s' ∧ DkP K F' d { A with ua := as } { D with starts := D.starts ++ [(D.log.length : Int)], und := us, log := D.log ++ xs.take k, s := sk })
    (EvF.popF (v := .ref a) (.fldM (.var rfl) h1.od (c_Desk T) (n_Desk_uundone T) rfl) h1.ou (by rw [hA]; simp) True.intro ⟨rfl, ⟨none, rfl⟩, ?_, D.s, .nil _, hR, ?_⟩) (fun k ss' F' h => h.2.1) (fun k x ss' F' hx ⟨⟨o, e⟩, h3, sk, r1, r2, h4⟩ => ?_) (fun ss' F' ⟨⟨o, e⟩, h3, sk, r1, r2, h4⟩ => ?_)
  · rw [upd_ne (fun z => by rw [z, h1.ou] at ha1; cases ha1)]
    exact ha1
  · rw [hdl]
    have e0 : D.log ++ xs.take 0 = D.log := by simp
    rw [e0]
    exact h2
  · subst e
    have tk : xs.take (k + 1) = xs.take k ++ [x] := by rw [List.take_succ, hx]; rfl
    have dk : xs.drop k = x :: xs.drop (k + 1) := by
      rw [List.drop_eq_getElem_cons (List.getElem?_eq_some_iff.mp hx).1]
      congr 1
      exact (List.getElem?_eq_some_iff.mp hx).2
    rw [dk] at r2
    cases r2 with
    | cons hL r2 =>
      have hWk := (r1.wf hw.wf).1
      have hzk : (D.log ++ xs.take k).length < 16777216 := by
        rw [List.length_append, List.length_take]
        omega
      refine .drop (.meth (.var rfl) h4.od rfl (.eva (.cons (.var rfl) .nil) ⟨d, _, _, x, rfl, h4, hWk, hL, hzk, ⟨_, rfl⟩, ?_, aft sk x, ?_, r2, ?_⟩))
      · rw [wrF_ne (fun z => by rw [z, h4.ok.ol] at h3; cases h3) (fun z => by rw [z, h4.ok.or] at h3; cases h3) (fun z => by rw [z, h4.ok.of] at h3; cases h3) (fun z => by rw [z, h4.og] at h3; cases h3)]
        exact h3
      · rw [tk]
        exact r1.snoc hL
      · have z := h4.wr x
        unfold wr at z
        have e : D.log ++ xs.take (k + 1) = D.log ++ xs.take k ++ [x] := by rw [tk, List.append_assoc]
        rw [e]
        exact z
  · subst e
    rw [List.drop_length] at r2
    cases r2
    rw [List.take_length] at h4
    exact hN F' _ h4


/-! ### Trial -/
def ph_trinit (KK : PySem.W.Frag) : Ph := fun ds F P => ∃ t d dxt Fd Ft A D, ds = [.m t, .m d] ∧ F = joi Fd Ft ∧ Disj Fd Ft ∧ Good Fd ∧ Good Ft ∧ Ft t = some (.ins (He.ga KK "Trial") dxt []) ∧ DkP KK Fd d A D ∧ Wf D.s ∧
  ∀ Ft', TrH KK Ft' t dxt d D.log D.s → Disj Fd Ft' → Good Ft' → P .n (joi Fd Ft')
def ph_enter (KK : PySem.W.Frag) : Ph := fun ds F P => ∃ t, ds = [.m t] ∧ P (.m t) F
def ph_keep (KK : PySem.W.Frag) : Ph := fun ds F P => ∃ t dxt d q a A D, ds = [.m t] ∧ TrP KK F t dxt d q a ∧ DkP KK F d A D ∧ P .n (upd F t (.ins (He.ga KK "Trial") dxt [("desk", .ref d), ("held_log", .ref A.lg), ("held_links", .ref A.lk)]))

theorem ok_Trial_init (T : TX K mg) : FnR PW w K mg base CX0 7 (mA "Trial" "__init__" K) (PD K (ph_trinit K)) := by
  obtain ⟨fd, F⟩ := f_Trial_init T
  refine fnD_of F n_Trial_init (F.bindsN fun _ _ _ _ _ _ us hl => match us, hl with | [_, _], _ => rfl) (fun ds F P ⟨_, _, _, _, _, _, _, e, _⟩ => by rw [e]; rfl) fun cdv A outer s H E hr => ⟨_, PSs.nox
    (pss_cons (ps_fld (pv 0) (pv 1) rfl)
      (pss_cons (ps_fld (pv 0) (pe_methE0 (pv 1) (c_Desk T) (m_Desk_log T) (ok_Desk_log T) (hr.mono (by decide)) at0) rfl)
      (pss_one (ps_fld (pv 0) (pe_methE0 (pv 1) (c_Desk T) (m_Desk_links T) (ok_Desk_links T) (hr.mono (by decide)) at0) rfl)))), fun ds F P h gF => ?_⟩
  obtain ⟨t, d, dxt, Fd, Ft, A, D, rfl, rfl, dj, gd, gt, ht, hD, hW, hP⟩ := h
  have td : Fd t = none := (dj t).resolve_right fun z => by rw [ht] at z; cases z
  refine .seq (.fldSet (.evf (.var rfl) ⟨rfl, dxt, [], by rw [joi_r td]; exact ht, Nat.le_of_ble_eq_true rfl, ?_⟩) (.var rfl) (c_Trial T) (n_Trial_desk T))
  rw [joi_put td]
  have g1 : Gr Fd Fd (upd Ft t (.ins (He.ga K "Trial") dxt (putF "desk" (vl (.m d)) []))) := .fld dj gd gt ht
  have h1 := hD.same (same_joi (F := upd Ft t (.ins (He.ga K "Trial") dxt (putF "desk" (vl (.m d)) []))))
  refine .seq (.fldSet (.meth0 (.var rfl) h1.od rfl ⟨d, A, D, rfl, h1, fun q hq => ⟨rfl, dxt, putF "desk" (vl (.m d)) [], ?_, Nat.le_of_ble_eq_true rfl, ?_⟩⟩) (.var rfl) (c_Trial T) (n_Trial_held_log T))
  · rw [upd_ne (fun z => by
      have := (joi_none hq).2
      rw [← z, upd_same] at this
      cases this), joi_r td, upd_same]
  have hq2 := joi_none hq
  have qt : q ≠ t := fun z => by rw [z, upd_same] at hq2; cases hq2.2
  rw [joi_put hq2.1, joi_put td]
  have g2 : Gr Fd Fd (upd (upd Ft t (.ins (He.ga K "Trial") dxt (putF "desk" (vl (.m d)) []))) q (.lst (D.log.map V.int))) := .newF g1.dj gd g1.gF hq
  have ht2 : upd (upd Ft t (.ins (He.ga K "Trial") dxt (putF "desk" (vl (.m d)) []))) q (.lst (D.log.map V.int)) t = some (.ins (He.ga K "Trial") dxt (putF "desk" (vl (.m d)) [])) := by rw [upd_ne (Ne.symm qt), upd_same]
  have g3 : Gr Fd Fd (upd (upd (upd Ft t (.ins (He.ga K "Trial") dxt (putF "desk" (vl (.m d)) []))) q (.lst (D.log.map V.int))) t (.ins (He.ga K "Trial") dxt (putF "held_log" (vl (.m q)) (putF "desk" (vl (.m d)) [])))) := .fld g2.dj gd g2.gF ht2
  have h3 := hD.same (same_joi (F := upd (upd (upd Ft t (.ins (He.ga K "Trial") dxt (putF "desk" (vl (.m d)) []))) q (.lst (D.log.map V.int))) t (.ins (He.ga K "Trial") dxt (putF "held_log" (vl (.m q)) (putF "desk" (vl (.m d)) [])))))
  refine .fldSet (.meth0 (.var rfl) h3.od rfl ⟨d, A, D, rfl, h3, hW, fun a F0 N0 dj0 g0 => ⟨rfl, dxt, putF "held_log" (vl (.m q)) (putF "desk" (vl (.m d)) []), by rw [joi_assoc, joi_r td]; exact joi_l upd_same, Nat.le_of_ble_eq_true rfl, ?_⟩⟩) (.var rfl) (c_Trial T) (n_Trial_held_links T)
  obtain ⟨⟨dx, l, r, f, L, _⟩, _⟩ := N0
  rw [joi_assoc, joi_put td]
  have nn : ∀ {p q : Addr} {o u : HO}, joi Fd (upd (upd (upd Ft t (.ins (He.ga K "Trial") dxt (putF "desk" (vl (.m d)) []))) q (.lst (D.log.map V.int))) t (.ins (He.ga K "Trial") dxt (putF "held_log" (vl (.m q)) (putF "desk" (vl (.m d)) [])))) p = some o → F0 q = some u → True := fun _ _ => True.intro
  have djt : Disj (upd (upd (upd Ft t (.ins (He.ga K "Trial") dxt (putF "desk" (vl (.m d)) []))) q (.lst (D.log.map V.int))) t (.ins (He.ga K "Trial") dxt (putF "held_log" (vl (.m q)) (putF "desk" (vl (.m d)) [])))) F0 := fun b => by
    rcases dj0 b with z | z
    · exact .inl (joi_none z).2
    · exact .inr z
  have djd : Disj Fd F0 := fun b => by
    rcases dj0 b with z | z
    · exact .inl (joi_none z).1
    · exact .inr z
  have gj := g3.gF.joi g0 djt
  have htj : joi (upd (upd (upd Ft t (.ins (He.ga K "Trial") dxt (putF "desk" (vl (.m d)) []))) q (.lst (D.log.map V.int))) t (.ins (He.ga K "Trial") dxt (putF "held_log" (vl (.m q)) (putF "desk" (vl (.m d)) [])))) F0 t = some (.ins (He.ga K "Trial") dxt (putF "held_log" (vl (.m q)) (putF "desk" (vl (.m d)) []))) := joi_l upd_same
  have ne0 : ∀ {p : Addr} {u : HO}, F0 p = some u → p ≠ t ∧ p ≠ q := fun {p u} e => by
    refine ⟨fun z => ?_, fun z => ?_⟩
    · rcases djt p with y | y
      · rw [z, upd_same] at y; cases y
      · rw [e] at y; cases y
    · rcases djt p with y | y
      · rw [z, upd_ne qt, upd_same] at y; cases y
      · rw [e] at y; cases y
  refine hP _ ⟨q, a, dx, l, r, f, ⟨by rw [upd_same]; rfl⟩, ?_, ?_, Ne.symm (ne0 L.ol).2, Ne.symm (ne0 L.or).2, Ne.symm (ne0 L.of).2⟩ ?_ (gj.fld htj)
  · rw [upd_ne qt]
    exact joi_l (by rw [upd_ne qt, upd_same])
  · have up : ∀ {p o}, F0 p = some o → upd (joi (upd (upd (upd Ft t (.ins (He.ga K "Trial") dxt (putF "desk" (vl (.m d)) []))) q (.lst (D.log.map V.int))) t (.ins (He.ga K "Trial") dxt (putF "held_log" (vl (.m q)) (putF "desk" (vl (.m d)) [])))) F0) t (.ins (He.ga K "Trial") dxt (putF "held_links" (vl (.m a)) (putF "held_log" (vl (.m q)) (putF "desk" (vl (.m d)) [])))) p = some o := fun e => by
      rw [upd_ne (ne0 e).1]
      exact same_joi_r djt _ _ e
    exact ⟨up L.oa, up L.ol, up L.or, up L.of, L.lr, L.lf, L.rf⟩
  · intro b
    rcases dj0 b with z | z
    · exact .inl (joi_none z).1
    · by_cases hb : b = t
      · subst hb; exact .inl td
      · rw [upd_ne hb]
        rcases g3.dj b with y | y
        · exact .inl y
        · exact .inr (by rw [joi_r y]; exact z)

theorem ok_Trial_enter (T : TX K mg) : FnR PW w K mg base CX0 1 (mA "Trial" "__enter__" K) (PD K (ph_enter K)) := by
  obtain ⟨fd, F⟩ := f_Trial_enter T
  refine fnD_of F n_Trial_enter (F.bindsN fun _ _ _ _ _ _ us hl => match us, hl with | [_], _ => rfl) (fun ds F P ⟨_, e, _⟩ => by rw [e]; rfl) fun cdv A outer s H E hr => ⟨_, PSs.nox
    (pss_one (ps_ret (pv 0))), fun ds F P h gF => ?_⟩
  obtain ⟨t, rfl, hP⟩ := h
  exact .ret (.evf (.var rfl) hP)

theorem ok_Trial_keep_changes (T : TX K mg) : FnR PW w K mg base CX0 1 (mA "Trial" "keep_changes" K) (PD K (ph_keep K)) := by
  obtain ⟨fd, F⟩ := f_Trial_keep_changes T
  refine fnD_of F n_Trial_keep_changes (F.bindsN fun _ _ _ _ _ _ us hl => match us, hl with | [_], _ => rfl) (fun ds F P ⟨_, _, _, _, _, _, _, e, _⟩ => by rw [e]; rfl) fun cdv A outer s H E hr => ⟨_, PSs.nox
    (pss_cons (ps_fld (pv 0) (pe_fld (pe_fld (pv 0) rfl) rfl) rfl)
      (pss_one (ps_fld (pv 0) (pe_fld (pe_fld (pv 0) rfl) rfl) rfl))), fun ds F P h gF => ?_⟩
  obtain ⟨t, dxt, d, q, a, A, D, rfl, ht, hD, hP⟩ := h
  have td : t ≠ d := fun z => by
    have h1 := hD.od
    rw [← z, ht.ot] at h1
    have h2 := congrArg (fun o : Option HO => match o with | some (.ins _ _ fs) => fs.length | _ => 0) h1
    simp at h2
  refine .seq (.fldSet (.fldFF (v := .ref A.lg) (.fldM (.var rfl) ht.ot (c_Trial T) (n_Trial_desk T) rfl) hD.od (c_Desk T) (n_Desk_ulog T) rfl True.intro ⟨rfl, dxt, _, ht.ot, Nat.le_of_ble_eq_true rfl, ?_⟩) (.var rfl) (c_Trial T) (n_Trial_held_log T))
  refine .fldSet (.fldFF (v := .ref A.lk) (.fldM (q := d) (.var rfl) upd_same (c_Trial T) (n_Trial_desk T) rfl) (by rw [upd_ne (Ne.symm td)]; exact hD.od) (c_Desk T) (n_Desk_ulinks T) rfl True.intro ⟨rfl, dxt, _, upd_same, Nat.le_of_ble_eq_true rfl, ?_⟩) (.var rfl) (c_Trial T) (n_Trial_held_links T)
  rw [upd_upd]
  exact hP

end
end Lay
end
section
set_option Elab.async false
set_option linter.all false
set_option autoImplicit false
set_option maxRecDepth 100000
set_option maxHeartbeats 4000000
namespace Lay
open PySem PySem.Spec PyProof.Rows L2


def spExit (K : PySem.W.Frag) : Sp := fun vs H Q _ => ∃ t v1 v2 v3 G F d dxt dxd fs q a, vs = [.ref t, v1, v2, v3] ∧ H = joi G F ∧ Disj G F ∧ Good G ∧ Good F ∧ TrP K F t dxt d q a ∧ F d = some (.ins (He.ga K "Desk") dxd fs) ∧ fs.length < 900 ∧ t ≠ d ∧
  Goes K G (fun r F' => r = .n ∧ F' = upd F d (.ins (He.ga K "Desk") dxd (putF "_links" (.ref a) (putF "_log" (.ref q) fs)))) Q
theorem putF_len (f : Str) (v : V) : ∀ fs : List (Str × V), (putF f v fs).length ≤ fs.length + 1
  | [] => by show 1 ≤ 1; omega
  | (g, x) :: r => by
    show (if g = f then (g, v) :: r else (g, x) :: putF f v r).length ≤ _
    have := putF_len f v r
    split <;> simp only [List.length_cons] <;> omega
def perf : Dk → List Int → Nat → Dk × Option (Str × List (Str × V))
  | D, [], _ => (D, none)
  | D, op :: ops, i => match jd D op i with
    | some e => (D, some e)
    | none => perf (wr D op) ops (i + 1)
theorem perf_keep : ∀ (ops : List Int) (D : Dk) (i : Nat), ∃ log s, (perf D ops i).1 = { D with log := log, s := s }
  | [], D, i => ⟨D.log, D.s, rfl⟩
  | op :: ops, D, i => by
    unfold perf
    cases h : jd D op i with
    | some e => exact ⟨D.log, D.s, rfl⟩
    | none => exact perf_keep ops (wr D op) (i + 1)
theorem dkw_wr {D : Dk} {op ix : Int} (hw : DkW D) (h : jd D op ix = none) : DkW (wr D op) := by
  obtain ⟨hL, hc⟩ := jd_leg hw h
  have c1 := hw.c1
  refine ⟨hw.n0, hw.n1, hw.sn, wf_aft hw.wf hL, hw.c0, hw.c1, hw.k0, hw.k1, ?_, hw.sz, hw.uz⟩
  show (D.log ++ [op]).length ≤ 2000
  rw [List.length_append, List.length_singleton]
  omega
theorem perf_w : ∀ (ops : List Int) (D : Dk) (i : Nat), DkW D → DkW (perf D ops i).1
  | [], D, i, h => h
  | op :: ops, D, i, h => by
    unfold perf
    cases q : jd D op i with
    | some e => exact h
    | none => exact perf_w ops (wr D op) (i + 1) (dkw_wr h q)
def px_perform (KK : PySem.W.Frag) : PhX := fun ds F P PE => ∃ d A D ops, ds = [.m d, .t (ops.map DV.i)] ∧ DkP KK F d A D ∧ DkW D ∧ ∀ F', DkP KK F' d A (perf D ops 0).1 → (∀ e, (perf D ops 0).2 = some e → PE e.1 e.2 F') ∧ ((perf D ops 0).2 = none → P .n F')
/-- an attempt: the operations one behind another, or nothing -/
def att (D : Dk) (ops : List Int) : Dk × Option (Str × List (Str × V)) := match (perf D ops 0).2 with
  | some e => (D, some e)
  | none => (cl (perf D ops 0).1 D.log.length, none)
def px_att0 (KK : PySem.W.Frag) : PhX := fun ds F P PE => ∃ d A D ops, ds = [.m d, .t (ops.map DV.i)] ∧ DkP KK F d A D ∧ DkW D ∧ ∀ F' A', DkP KK F' d A' (att D ops).1 → (∀ e, (att D ops).2 = some e → PE e.1 e.2 F') ∧ ((att D ops).2 = none → P (.i ops.length) F')
def px_attempt (KK : PySem.W.Frag) : PhX := fun ds F P PE => ∃ d A D ops, ds = .m d :: ops.map DV.i ∧ ops.length ≤ 1000 ∧ DkP KK F d A D ∧ DkW D ∧ ∀ F' A', DkP KK F' d A' (att D ops).1 → (∀ e, (att D ops).2 = some e → PE e.1 e.2 F') ∧ ((att D ops).2 = none → P (.i ops.length) F')
section
variable {w : World} {K : PySem.W.Frag} {mg : Str → Option Value} {base : Heap}

theorem okA_Trial_exit (T : TX K mg) : FnA PW w K mg base CX0 1 (mA "Trial" "__exit__" K) (fun _ => spExit K) := by
  obtain ⟨fd, F⟩ := f_Trial_exit T
  refine fnA_of F n_Trial_exit (F.bindsN fun _ _ _ _ _ _ us hl => match us, hl with | [_, _, _, _], _ => rfl) (fun pn vs H Q E ⟨_, _, _, _, _, _, _, _, _, _, _, _, e, _⟩ => by rw [e]; rfl) fun cdv A outer s H vs Q E pn hr h => ⟨_,
    (pss_cons (ps_set (i := 4) n_Trial_exit.nd rfl (by first | exact .inl rfl | exact .inr rfl) (pe_fld (pv 0) rfl))
      (pss_cons (ps_fld (pv 4) (pe_fld (pv 0) rfl) rfl)
      (pss_one (ps_fld (pv 4) (pe_fld (pv 0) rfl) rfl)))), ?_⟩
  obtain ⟨t, v1, v2, v3, G, F, d, dxt, dxd, fs, q, a, rfl, rfl, dj, gG, gF, ht, hd, hl, td, go⟩ := h
  have lp := putF_len "_log" (.ref q) fs
  have key : RnF K (tSeq (tAsg (tFld K (tVar 0) "desk") (gName 4)) (tSeq (sFld K (tVar 4) (tFld K (tVar 0) "held_log") "_log") (sFld K (tVar 4) (tFld K (tVar 0) "held_links") "_links"))) [some (.m t), none, none, none, none] F
      (fun _ F' => F' = upd F d (.ins (He.ga K "Desk") dxd (putF "_links" (.ref a) (putF "_log" (.ref q) fs)))) (fun _ _ => False) := by
    refine .seq (.asg (.fldF (v := .ref d) (.var rfl) ht.ot (c_Trial T) (n_Trial_desk T) rfl True.intro ?_))
    refine .seq (.fldSet (.fldF (v := .ref q) (.var rfl) ht.ot (c_Trial T) (n_Trial_held_log T) rfl True.intro ⟨rfl, dxd, fs, hd, by omega, ?_⟩) (.var rfl) (c_Desk T) (n_Desk_ulog T))
    refine .fldSet (.fldF (v := .ref a) (.var rfl) (by rw [upd_ne td]; exact ht.ot) (c_Trial T) (n_Trial_held_links T) rfl True.intro ⟨rfl, dxd, _, upd_same, by show (putF "_log" (.ref q) fs).length < 1000; omega, ?_⟩) (.var rfl) (c_Desk T) (n_Desk_ulinks T)
    rw [upd_upd]
    rfl
  refine key _ G ⟨⟨rfl, fun i dd e => ?_⟩, dj, gG, gF⟩ _ (fun σ' ss' G' F' g _ e => go .non .n G' F' g .n ⟨rfl, e⟩) (fun v dd G' F' g r e => e.elim)
  match i, e with
  | 0, e =>
    cases e
    exact ⟨.ref t, rfl, .m t⟩
  | 1, e => cases e
  | 2, e => cases e
  | 3, e => cases e
  | 4, e => cases e
  | n + 5, e => simp at e

theorem okx_Desk_uperform (T : TX K mg) : FnR PW w K mg base (L2.CX PW w) 19 (mA "Desk" "_perform" K) (PDX K (px_perform K)) := by
  obtain ⟨fd, F⟩ := f_Desk_uperform T
  refine fnX_of F n_Desk_uperform (F.bindsN fun _ _ _ _ _ _ us hl => match us, hl with | [_, _], _ => rfl) (fun ds F P PE ⟨_, _, _, _, e, _⟩ => by rw [e]; rfl) fun cdv A outer s H E hr => ⟨_,
    (pss_one (ps_for (passes_of rfl) rfl (pi_enumT (by rfl) (b_enumerate T) (pa_cons (pv 1) pa_nil)) (by exact pg_tup rfl (pgs_cons (pg_name (i := 2) n_Desk_uperform.nd rfl (by first | exact .inl rfl | exact .inr rfl)) (pgs_cons (pg_name (i := 3) n_Desk_uperform.nd rfl (by first | exact .inl rfl | exact .inr rfl)) pgs_nil))) (pss_cons (ps_expr (pe_methE (pv 0) (c_Desk T) (m_Desk_ujudge T) (okx_Desk_ujudge T) (hr.mono (by decide)) (atX (takes_of rfl rfl rfl rfl)) (pa_cons (pv 3) (pa_cons (pv 2) pa_nil))))
      (pss_one (ps_expr (pe_methE (pv 0) (c_Desk T) (m_Desk_uwrite T) (ok_Desk_uwrite T) (hr.mono (by decide)) at0 (pa_cons (pv 3) pa_nil))))))), fun ds F P PE h gF => ?_⟩
  obtain ⟨d, A, D, ops, rfl, hD, hw, hE⟩ := h
  refine .forEnumT (ds := ops.map DV.i) (fun k ss' F' => (∃ o1 o2, ss' = [some (.m d), some (.t (ops.map DV.i)), o1, o2]) ∧ ∃ D', DkP K F' d A D' ∧ DkW D' ∧ perf D ops 0 = perf D' (ops.drop k) k)
    (.evf (.var rfl) ⟨rfl, ⟨none, none, rfl⟩, D, hD, hw, rfl⟩) (fun k dd ss' F' hk ⟨⟨o1, o2, e1⟩, D', h1, hw1, hp⟩ => ?_) (fun ss' F' ⟨⟨o1, o2, e1⟩, D', h1, hw1, hp⟩ => ?_)
  · subst e1
    rw [List.getElem?_map] at hk
    cases hg : ops[k]? with
    | none => rw [hg] at hk; cases hk
    | some op =>
      rw [hg] at hk
      cases hk
      have dk : ops.drop k = op :: ops.drop (k + 1) := by
        rw [List.drop_eq_getElem_cons (List.getElem?_eq_some_iff.mp hg).1]
        congr 1
        exact (List.getElem?_eq_some_iff.mp hg).2
      rw [dk] at hp
      refine .seq (.drop (EvX.meth (.var rfl) h1.od rfl (.eva (.cons (.var rfl) (.cons (.var rfl) .nil)) ⟨d, A, D', op, _, rfl, h1, hw1, fun e he => ?_, fun hn => ?_⟩)))
      · have e2 : perf D ops 0 = (D', some e) := by
          rw [hp]
          unfold perf
          rw [he]
        rw [e2] at hE
        exact (hE F' h1).1 e rfl
      · obtain ⟨hL, hc⟩ := jd_leg hw1 hn
        have zl := hw1.lz
        refine .drop (.of (EvF.meth (.var rfl) h1.od rfl (.eva (.cons (.var rfl) .nil) ⟨d, A, D', op, rfl, h1, hw1.wf, hL, by omega, ⟨_, _, rfl⟩, wr D' op, h1.wr op, dkw_wr hw1 hn, ?_⟩)))
        rw [hp]
        conv => lhs; unfold perf
        rw [hn]
  · subst e1
    rw [List.length_map, List.drop_length] at hp
    have e2 : perf D ops 0 = (D', none) := hp
    rw [e2] at hE
    exact (hE F' h1).2 rfl

end
end Lay
end
section
set_option Elab.async false
set_option linter.all false
set_option autoImplicit false
set_option maxRecDepth 100000
set_option maxHeartbeats 4000000
/-! own layer T: with Trial(self) as trial -/
namespace Lay
open PySem PySem.Spec PyProof.Rows L2
theorem upd_self {H : Hp} {p : Addr} {o : HO} (h : H p = some o) : upd H p o = H := by
  funext b
  by_cases hb : b = p
  · rw [hb, upd_same, h]
  · rw [upd_ne hb]
theorem disj_ne {A B : Hp} (dj : Disj A B) {p q : Addr} {o u : HO} (hp : A p = some o) (hq : B q = some u) : q ≠ p := fun z => by
  rcases dj q with y | y
  · rw [z, hp] at y; cases y
  · rw [hq] at y; cases y
/-- both halves put back -/
theorem DkP.back {K : PySem.W.Frag} {F1 Ft : Hp} {d : Addr} {A : DA} {D D1 : Dk} {q a dx l r f : Addr} (h : DkP K F1 d A D1) (dj : Disj F1 Ft) (hq : Ft q = some (.lst (D.log.map V.int))) (L : LkP K Ft a dx l r f D.s) (ql : q ≠ l) (qr : q ≠ r) (qf : q ≠ f) (hk : D = { D1 with log := D.log, s := D.s }) (hn : D.s.n = D.n) :
    DkP K (upd (joi F1 Ft) d (.ins (He.ga K "Desk") A.dx (putF "_links" (.ref a) (putF "_log" (.ref q) (deskFs A D1))))) d { A with lg := q, lk := a, dxl := dx, l := l, r := r, f := f } D := by
  have n1 : ∀ {p q : Addr} {o u : HO}, F1 p = some o → Ft q = some u → q ≠ p := fun e1 e2 => disj_ne dj e1 e2
  have hj := h.same (same_joi (F := Ft))
  have h2 := hj.newLog D.log (same_joi_r dj _ _ hq) (n1 h.os hq) (n1 h.ou hq) (n1 h.ok.ol hq) (n1 h.ok.or hq) (n1 h.ok.of hq)
  have up : ∀ {p : Addr} {u : HO}, Ft p = some u → upd (joi F1 Ft) d (.ins (He.ga K "Desk") A.dx (putF "_log" (.ref q) (deskFs A D1))) p = some u := fun e => by
    rw [upd_ne (n1 h.od e)]
    exact same_joi_r dj _ _ e
  have L2' : LkP K (upd (joi F1 Ft) d (.ins (He.ga K "Desk") A.dx (putF "_log" (.ref q) (deskFs A D1)))) a dx l r f D.s := ⟨up L.oa, up L.ol, up L.or, up L.of, L.lr, L.lf, L.rf⟩
  have hn1 : D.s.n = D1.n := by rw [hn, hk]
  have h3 := h2.newLinks L2' ⟨Ne.symm ql, n1 h.os L.ol, n1 h.ou L.ol⟩ ⟨Ne.symm qr, n1 h.os L.or, n1 h.ou L.or⟩ ⟨Ne.symm qf, n1 h.os L.of, n1 h.ou L.of⟩ hn1
  rw [upd_upd] at h3
  have e : ({ ({ D1 with log := D.log } : Dk) with s := D.s } : Dk) = D := hk.symm
  rw [e] at h3
  exact h3
theorem RnX.withTrial {K : PySem.W.Frag} {E E1 : XK} {ss : List (Option DV)} {F : Hp} {N : List (Option DV) → Hp → Prop} {R : DV → Hp → Prop} {PE : XP} {d : Addr} {A : DA} {D : Dk} {ops : List Int} (gF : Good F) (h0 : ss[0]? = some (some (.m d))) (h1 : ss[1]? = some (some (.t (ops.map DV.i)))) (hl : 3 < ss.length)
    (hD : DkP K F d A D) (hw : DkW D) (hN : (perf D ops 0).2 = none → ∀ F' A' t, DkP K F' d A' (perf D ops 0).1 → N (ss.set 3 (some (.m t))) F') (hE : ∀ e, (perf D ops 0).2 = some e → ∀ F' A', DkP K F' d A' D → PE e.1 e.2 F') :
    RnX K E (tWith (He.ga K "Trial") (PD K (ph_enter K)) (spExit K) 3 (StX.tMakeR (He.ga K "Trial") (PD K (ph_trinit K)) E1 (tCons (tVar 0) tNil))
      (fun W => tSeq (tDrop (tMethE (He.ga K "Desk") "_perform" (PDX K (FrX (px_perform K))) (fun σ => WE W σ) (tVar 0) (tCons (tVar 1) tNil))) (tDrop (tMethE (He.ga K "Trial") "keep_changes" (PD K (ph_keep K)) (fun _ => E0) (tVar 3) tNil))) (fun cls d _ H => E cls d H)) ss F N R PE := fun σ G o Dn nx rt gx => by
  have mk : EvF K (StX.tMakeR (He.ga K "Trial") (PD K (ph_trinit K)) E1 (tCons (tVar 0) tNil)) ss F (fun d' F' => ∃ t dxt Ft, d' = .m t ∧ F' = joi F Ft ∧ Disj F Ft ∧ Good Ft ∧ TrH K Ft t dxt d D.log D.s) := by
    refine .make (.eva (.cons (.var h0) .nil) fun x dx hx hd ne => ?_)
    have e : upd (upd F dx (.own x)) x (.ins (He.ga K "Trial") dx []) = joi F (upd (upd nilH dx (.own x)) x (.ins (He.ga K "Trial") dx [])) := by
      rw [← joi_put hx, ← joi_put hd, joi_nil]
    have g0 : Good (upd (upd nilH dx (.own x)) x (.ins (He.ga K "Trial") dx [])) := good_nil.made rfl rfl ne
    have dj0 : Disj F (upd (upd nilH dx (.own x)) x (.ins (He.ga K "Trial") dx [])) := fun b => by
      by_cases hb : b = x
      · subst hb; exact .inl hx
      · by_cases hb2 : b = dx
        · subst hb2; exact .inl hd
        · refine .inr ?_
          rw [upd_ne hb, upd_ne hb2]
          rfl
    exact ⟨x, d, dx, F, _, A, D, rfl, e, dj0, gF, g0, upd_same, hD, hw.wf, fun Ft' hT dj g => ⟨rfl, x, dx, Ft', rfl, rfl, dj, g, hT⟩⟩
  refine mk σ G o _ fun y dy G1 F1 g1 ry ⟨t, dxt, Ft, ey, eF, dj, gt, hT⟩ => ?_
  subst ey eF
  obtain rfl := ry.m_inv
  obtain ⟨q, a, dxl, l, r, f, hP, hq, L, ql, qr, qf⟩ := hT
  have ht := hP.ot
  have td : t ≠ d := disj_ne dj hD.od ht
  have inJ : ∀ {G' F1 : Hp} {p : Addr} {u : HO}, Disj G' (joi F1 Ft) → Disj F1 Ft → Ft p = some u → joi G' (joi F1 Ft) p = some u := fun {G' F1 p u} dG dF e => by
    have e2 := same_joi_r dF _ _ e
    rw [joi_r ((dG p).resolve_right fun z => by rw [e2] at z; cases z)]
    exact e2
  refine ⟨t, dxt, _, rfl, inJ g1.dj dj ht, ?_⟩
  refine ⟨G1, joi F Ft, [.m t], fun d' F' => d' = .m t ∧ F' = joi F Ft, rfl, g1.dj, g1.gG, g1.gF, .cons (.m t) .nil, ⟨t, rfl, rfl, rfl⟩, fun v dv G2 F2 g2 rv ⟨e1, e2⟩ => ?_⟩
  subst e1 e2
  obtain rfl := rv.m_inv
  have o2 : Okk K G2 (joi F Ft) (σ.set 3 (some (.ref t))) (ss.set 3 (some (.m t))) := ⟨((o.sg.same g1.sm).same g2.sm).set (.m t), g2.dj, g2.gG, g2.gF⟩
  obtain ⟨v0, s0, r0⟩ := o2.sg.2 0 (.m d) (by rw [List.getElem?_set_ne (by omega)]; exact h0)
  obtain rfl := r0.m_inv
  obtain ⟨v1, s1, r1⟩ := o2.sg.2 1 (.t (ops.map DV.i)) (by rw [List.getElem?_set_ne (by omega)]; exact h1)
  obtain ⟨v3, s3, r3⟩ := o2.sg.2 3 (.m t) (by rw [List.getElem?_set]; simp [hl])
  obtain rfl := r3.m_inv
  have atD : ∀ {G' F1 : Hp} {p : Addr} {u : HO}, Disj G' (joi F1 Ft) → F1 p = some u → joi G' (joi F1 Ft) p = some u := fun {G' F1 p u} dG e => by
    have e2 : joi F1 Ft p = some u := joi_l e
    rw [joi_r ((dG p).resolve_right fun z => by rw [e2] at z; cases z)]
    exact e2
  refine ⟨.ref d, s0, d, A.dx, deskFs A D, rfl, atD g2.dj hD.od, rfl, v1, s1, ?_⟩
  refine ⟨G2, joi F Ft, [.m d, .t (ops.map DV.i)], fun rr F' => ∃ F1, F' = joi F1 Ft ∧ Disj F1 Ft ∧ Good F1 ∧ DkP K F1 d A (perf D ops 0).1 ∧ (perf D ops 0).2 = none,
    fun x fs F' => ∃ F1 e, F' = joi F1 Ft ∧ Disj F1 Ft ∧ Good F1 ∧ DkP K F1 d A (perf D ops 0).1 ∧ (perf D ops 0).2 = some e ∧ x = e.1 ∧ fs = e.2, rfl, g2.dj, g2.gG, g2.gF, .cons (.m d) (.cons r1 .nil),
    ⟨F, Ft, rfl, dj, gF, gt, d, A, D, ops, rfl, hD, hw, fun F' h' => ⟨fun e he dd gg => ⟨F', e, rfl, dd, gg, h', he, rfl, rfl⟩, fun hn dd gg => ⟨F', rfl, dd, gg, h', hn⟩⟩⟩, fun v dv G3 F3 g3 rv ⟨F1, eF, dj1, gg1, h', hn⟩ => ?_, fun x fs G3 F3 dx' H' g3 ⟨F1, e, eF, dj1, gg1, h', he, ex, ef⟩ z => ?_⟩
  · subst eF
    refine ⟨.ref t, s3, t, dxt, _, rfl, inJ g3.dj dj1 ht, rfl, ?_⟩
    refine ⟨G3, joi F1 Ft, [.m t], fun rr F' => F' = upd (joi F1 Ft) t (.ins (He.ga K "Trial") dxt [("desk", .ref d), ("held_log", .ref A.lg), ("held_links", .ref A.lk)]), rfl, g3.dj, g3.gG, g3.gF, .cons (.m t) .nil, ⟨t, dxt, d, q, a, A, _, rfl, ⟨same_joi_r dj1 _ _ ht⟩, h'.same same_joi, rfl⟩, fun v dv G4 F4 g4 rv eF => ?_⟩
    subst eF
    have td1 : t ≠ d := td
    have hd4 : upd (joi F1 Ft) t (.ins (He.ga K "Trial") dxt [("desk", .ref d), ("held_log", .ref A.lg), ("held_links", .ref A.lk)]) d = some (.ins (He.ga K "Desk") A.dx (deskFs A (perf D ops 0).1)) := by
      rw [upd_ne (Ne.symm td)]
      exact joi_l h'.od
    refine ⟨t, .non, .non, .non, G4, _, d, dxt, A.dx, deskFs A (perf D ops 0).1, A.lg, A.lk, rfl, rfl, g4.dj, g4.gG, g4.gF, ⟨upd_same⟩, hd4, Nat.le_of_ble_eq_true rfl, td, fun v dv G5 F5 g5 rv ⟨_, e2⟩ => ?_⟩
    have e3 : F5 = upd (joi F1 Ft) t (.ins (He.ga K "Trial") dxt [("desk", .ref d), ("held_log", .ref A.lg), ("held_links", .ref A.lk)]) := by
      rw [e2]
      exact upd_self hd4
    subst e3
    have gall : Gr G G5 (upd (joi F1 Ft) t (.ins (He.ga K "Trial") dxt [("desk", .ref d), ("held_log", .ref A.lg), ("held_links", .ref A.lk)])) := ⟨(((g1.sm.trans g2.sm).trans g3.sm).trans g4.sm).trans g5.sm, g5.dj, g5.gG, g5.gF⟩
    refine nx _ (ss.set 3 (some (.m t))) G5 _ gall (((o2.sg.same g3.sm).same g4.sm).same g5.sm) (hN hn _ A t ?_)
    have kk : ∀ {p o}, F1 p = some o → upd (joi F1 Ft) t (.ins (He.ga K "Trial") dxt [("desk", .ref d), ("held_log", .ref A.lg), ("held_links", .ref A.lk)]) p = some o := fun e => by
      rw [upd_ne (Ne.symm (disj_ne dj1 e ht))]
      exact joi_l e
    exact h'.same fun p o e => kk e
  · subst eF
    have hk : D = { (perf D ops 0).1 with log := D.log, s := D.s } := by
      obtain ⟨lg, s', e⟩ := perf_keep ops D 0
      rw [e]
    have hB : DkP K (upd (joi F1 Ft) d (.ins (He.ga K "Desk") A.dx (putF "_links" (.ref a) (putF "_log" (.ref q) (deskFs A (perf D ops 0).1))))) d { A with lg := q, lk := a, dxl := dxl, l := l, r := r, f := f } D := h'.back dj1 hq L ql qr qf hk hw.sn
    have gB : Good (upd (joi F1 Ft) d (.ins (He.ga K "Desk") A.dx (putF "_links" (.ref a) (putF "_log" (.ref q) (deskFs A (perf D ops 0).1))))) := g3.gF.fld (joi_l h'.od)
    refine ⟨.ref (He.ga K x), rfl, fun ex' tv => ?_⟩
    have pe : PE x fs (upd (joi F1 Ft) d (.ins (He.ga K "Desk") A.dx (putF "_links" (.ref a) (putF "_log" (.ref q) (deskFs A (perf D ops 0).1))))) := by
      rw [ex, ef]
      exact hE e he _ _ hB
    rcases z with ⟨z1, z2, z3⟩ | ⟨dd, z1, z2, z3⟩
    · subst z3
      refine ⟨t, _, _, _, G3, joi F1 Ft, d, dxt, A.dx, deskFs A (perf D ops 0).1, q, a, rfl, rfl, g3.dj, g3.gG, g3.gF, ⟨same_joi_r dj1 _ _ ht⟩, joi_l h'.od, Nat.le_of_ble_eq_true rfl, td, fun v dv G4 F4 g4 rv ⟨e1, e2⟩ => ?_⟩
      subst e1 e2
      exact ⟨rv.non_inv, gx x fs G4 _ dx' _ ⟨((g1.sm.trans g2.sm).trans g3.sm).trans g4.sm, g4.dj, g4.gG, g4.gF⟩ pe (.inl ⟨z1, z2, rfl⟩)⟩
    · have z2' := joi_none z2
      have dt : dd ≠ t := fun y => by
        have := same_joi_r dj1 _ _ ht
        rw [← y, z2'.2] at this
        cases this
      have ddd : dd ≠ d := fun y => by
        have := joi_l (F := Ft) h'.od
        rw [← y, z2'.2] at this
        cases this
      rw [joi_put z2'.1] at z3
      subst z3
      have gX : Gr G3 G3 (upd (joi F1 Ft) dd (.xd fs)) := .newF g3.dj g3.gG g3.gF z2
      refine ⟨t, _, _, _, G3, upd (joi F1 Ft) dd (.xd fs), d, dxt, A.dx, deskFs A (perf D ops 0).1, q, a, rfl, rfl, gX.dj, g3.gG, gX.gF, ⟨by rw [upd_ne (Ne.symm dt)]; exact same_joi_r dj1 _ _ ht⟩, by rw [upd_ne (Ne.symm ddd)]; exact joi_l h'.od, Nat.le_of_ble_eq_true rfl, td, fun v dv G4 F4 g4 rv ⟨e1, e2⟩ => ?_⟩
      subst e1
      have e3 : F4 = upd (upd (joi F1 Ft) d (.ins (He.ga K "Desk") A.dx (putF "_links" (.ref a) (putF "_log" (.ref q) (deskFs A (perf D ops 0).1))))) dd (.xd fs) := by
        rw [e2, upd_comm (Ne.symm ddd)]
      subst e3
      have nd4 : joi G4 (upd (joi F1 Ft) d (.ins (He.ga K "Desk") A.dx (putF "_links" (.ref a) (putF "_log" (.ref q) (deskFs A (perf D ops 0).1))))) dd = none := by
        have : G4 dd = none := (g4.dj dd).resolve_right fun y => by rw [upd_same] at y; cases y
        rw [joi_r this, upd_ne ddd]
        exact z2'.2
      refine ⟨rv.non_inv, gx x fs G4 _ dx' _ ⟨((g1.sm.trans g2.sm).trans g3.sm).trans g4.sm, fun b => ?_, g4.gG, gB⟩ pe (.inr ⟨dd, z1, nd4, ?_⟩)⟩
      · by_cases hb : b = dd
        · subst hb
          refine .inr ?_
          rw [upd_ne ddd]
          exact z2'.2
        · rcases g4.dj b with y | y
          · exact .inl y
          · rw [upd_ne hb] at y; exact .inr y
      · rw [joi_put (joi_none nd4).1]
end Lay
end
section
set_option Elab.async false
set_option linter.all false
set_option autoImplicit false
set_option maxRecDepth 100000
set_option maxHeartbeats 4000000
namespace Lay
open PySem PySem.Spec PyProof.Rows L2


section
variable {w : World} {K : PySem.W.Frag} {mg : Str → Option Value} {base : Heap}
theorem okx_att0 (T : TX K mg) : FnR PW w K mg base (L2.CX PW w) 20 (mA "Desk" "attempt" K) (fun vs H Q E => ∃ ws rest, vs = ws ++ rest ∧ ws.length = ["self"].length ∧ rest.length ≤ sizeLine ∧ ∀ p, H p = Option.none → PDX K (px_att0 K) (ws ++ [V.ref p]) (upd H p (.tup rest)) Q E) := by
  obtain ⟨fd, F⟩ := f_Desk_attempt T
  obtain ⟨oc, od, dV, kV, doc, pm, an, cdv, ct, osl, efd, lk, hcd, hdv, _⟩ := F.ex
  subst efd
  refine StX.fn_star (k := 19) (pv := "operations") (ps := ["self"]) (sp := PDX K (px_att0 K)) lk hcd n_Desk_attempt StX.cxUp (fun us rest hl => ?_) fun A outer s H vs Q E hr h => ⟨_,
    (pss_cons (ps_set (i := 2) n_Desk_attempt.nd rfl (by first | exact .inl rfl | exact .inr rfl) (pe_callB call_len_seq (by rfl) (b_len T) boot_len' (pa_cons (pe_fld (pv 0) rfl) pa_nil)))
      (pss_cons (ps_with (i := 3) rfl rfl rfl (StX.pe_makeR (mk_Trial T) (ok_Trial_init T) (hr.mono (by decide)) rfl (g_Trial T) pass0 (pa_cons (pv 0) pa_nil)) (c_Trial T) (mgr_Trial T) (ok_Trial_enter T) (hr.mono (by decide)) (okA_Trial_exit T) (hr.mono (by decide)) n_Desk_attempt.nd rfl rfl (takes_of rfl rfl rfl rfl)
        (fun W pn xe tk _ => pss_cons (ps_expr (pe_methE (pv 0) (c_Desk T) (m_Desk_uperform T) (FnR.frX (okx_Desk_uperform T)) (hr.mono (by decide)) (fun σ => passAt tk σ) (pa_cons (pv 1) pa_nil))) (pss_one (ps_expr (pe_methE0 (pv 3) (c_Trial T) (m_Trial_keep_changes T) (ok_Trial_keep_changes T) (hr.mono (by decide)) at0)))))
      (pss_cons (ps_expr (pe_methE (pv 0) (c_Desk T) (m_Desk_uclose_step T) (ok_Desk_uclose_step T) (hr.mono (by decide)) at0 (pa_cons (pv 2) pa_nil)))
      (pss_one (ps_ret (pe_callB call_len_seq (by rfl) (b_len T) boot_len' (pa_cons (pv 1) pa_nil))))))), ?_⟩
  · rcases hdv with ⟨_, e⟩ | ⟨e, _⟩
    · subst e
      match us, hl, rest with
      | [_], _, [] => rfl
      | [_], _, _ :: _ => rfl
    · exact absurd rfl e
  · obtain ⟨G, F, ds, P, PE, eH, dj, gG, gF, r, ⟨d, A, D, ops, rfl, hD, hw, hP⟩, go, gx⟩ := h
    subst eH
    have zl := hw.lz
    have zs := hw.sz
    refine (show RnX K E _ (stD ["self", "operations", "start", "trial"] [.m d, .t (ops.map DV.i)]) F (fun _ F' => P .n F') P PE from ?_) _ G ⟨sg_start r, dj, gG, gF⟩ _ (fun σ' ss' G' F' g _ p => go .non .n G' F' g .n p) go gx
    ·
      refine .seq (.asg (.of (EvF.see (i := 0) (d := .i D.log.length) rfl hD.rep (by
        have z := EvD.len (K := K) (ss := [some D.V, some (.t (ops.map DV.i)), none, none]) (te := tFld K (tVar 0) "_log") (es := D.log.map DV.i) (.fldO (.var rfl) rfl (c_Desk T) (n_Desk_ulog T))
        rw [List.length_map] at z
        exact z) rfl ?_)))
      refine .seq (RnX.withTrial gF rfl rfl (by show 3 < 4; omega) hD hw (fun hn F' A' t h2 => ?_) (fun e he F' A' h2 => ?_))
      · have hp2 := perf_w ops D 0 hw
        obtain ⟨lg, s', hk⟩ := perf_keep ops D 0
        refine .seq (.drop (.of (EvF.meth (.var rfl) h2.od rfl (.eva (.cons (.var rfl) .nil) ⟨d, A', (perf D ops 0).1, D.log.length, rfl, h2, hp2.wf, by have := hp2.sz; omega, fun F3 A3 h3 => ?_⟩))))
        have hatt : att D ops = (cl (perf D ops 0).1 D.log.length, none) := by
          unfold att
          rw [hn]
        rw [hatt] at hP
        have z := EvD.lenT (K := K) (ss := [some (.m d), some (.t (ops.map DV.i)), some (.i D.log.length), some (.m t)]) (te := tVar 1) (es := ops.map DV.i) (.var rfl)
        rw [List.length_map] at z
        exact .ret (.of (.evf z ((hP F3 A3 h3).2 rfl)))
      · have hatt : att D ops = (D, some e) := by
          unfold att
          rw [he]
        rw [hatt] at hP
        exact (hP F' A' h2).1 e rfl
theorem okx_Desk_attempt (T : TX K mg) : FnR PW w K mg base (L2.CX PW w) 20 (mA "Desk" "attempt" K) (PDX K (px_attempt K)) :=
  (okx_att0 T).imp fun vs H Q E ⟨G, F, ds, P, PE, eH, dj, gG, gF, r, ⟨d, A, D, ops, ed, hz, hD, hw, hP⟩, go, gx⟩ => by
    subst eH ed
    obtain ⟨v, rest, rfl, r1, r2⟩ := r.uncons
    obtain rfl := r1.m_inv
    have hr := r2.ints_inv
    subst hr
    refine ⟨[.ref d], ops.map V.int, rfl, rfl, by rw [List.length_map, sizeLine_eq]; omega, fun p hp => ?_⟩
    have g2 : Gr G (upd G p (.tup (ops.map V.int))) F := .new dj gG gF hp
    refine ⟨upd G p (.tup (ops.map V.int)), F, [.m d, .t (ops.map DV.i)], P, PE, joi_new, g2.dj, g2.gG, gF, .cons (.m d) (.cons ?_ .nil), ⟨d, A, D, ops, rfl, hD, hw, hP⟩, go.gr g2, gx.gr g2⟩
    exact .t (.of upd_same) (RepL.ints (K := K) (G := upd G p (.tup (ops.map V.int)))).1 RepL.ints.2
end
end Lay
end
section
set_option Elab.async false
set_option linter.all false
set_option autoImplicit false
set_option maxRecDepth 100000
set_option maxHeartbeats 4000000
namespace Lay
open PySem PySem.Spec PyProof.Rows L2


def ph_dinit (KK : PySem.W.Frag) : Ph := fun ds F P => ∃ a dx n k cap, ds = [.m a, .i n, .s (modeN k), .i cap] ∧ F a = some (.ins (He.ga KK "Desk") dx []) ∧ 0 ≤ n ∧ n ≤ 60 ∧ 0 ≤ k ∧ k ≤ 3 ∧ 1 ≤ cap ∧ cap ≤ 2000 ∧
  ∀ F' A, DkP KK F' a A ⟨n, cap, k, [], [], St0 n, []⟩ → (∀ b u, b ≠ a → F b = some u → F' b = some u) → P .n F'
/-- all but a stays -/
def Keep (a : Addr) (F F' : Hp) : Prop := ∀ b u, b ≠ a → F b = some u → F' b = some u
theorem Keep.trans {a : Addr} {F G H : Hp} (h : Keep a F G) (k : Keep a G H) : Keep a F H := fun b u hb e => k b u hb (h b u hb e)
theorem Keep.put {a : Addr} {F : Hp} {o : HO} : Keep a F (upd F a o) := fun b u hb e => by rw [upd_ne hb]; exact e
theorem Keep.new {a p : Addr} {F : Hp} {o : HO} (hp : F p = none) : Keep a F (upd F p o) := fun b u hb e => by rw [upd_ne (ne_of_none e hp)]; exact e
theorem fnDk_of {P : Program} {w : World} {K : PySem.W.Frag} {mg : Str → Option Value} {base : Heap} {k : Nat} {f : Addr} {x qual : Str} {params : Arguments} {body : List Stmt} {scope : Scope} {kws : List (Str × V)} {fd : FuncData} {N ps : List Str} {Φ : Ph}
    {CX : CXT} (F : FunD K x qual params body scope [] kws f fd) (S : FnScope N ps scope) (len : ∀ ds F P, Φ ds F P → ds.length = ps.length)
    (hbody : ∀ (cdv : Value) (A : Around) (outer : List Env) (s : Shared) (H : Hp) (E : XK), Room k (A.deeper (envOfC qual scope s.heap.objs.size f cdv)) →
      ∃ t, PSs (cxOf CX P w K mg base N qual scope f cdv A outer s H E) body t ∧ ∀ ds F P, Φ ds F P → Good F → RnF K t (stD N ds) F (fun _ F' => P .n F') P) : FnOk P w K mg base CX (k + 1) f fd ps (PD K Φ) := by
  refine FunD.ok F S (sp := PD K Φ) (fun vs H Q E h => ?_) fun cdv A outer s H vs Q E hr h => ?_
  · obtain ⟨G, F, ds, P, _, _, _, _, r, hΦ, _⟩ := h
    rw [r.1]
    exact len ds F P hΦ
  · obtain ⟨G, F, ds, P, eH, dj, gG, gF, r, hΦ, go⟩ := h
    obtain ⟨t, ht, hq⟩ := hbody cdv A outer s H E hr
    refine ⟨t, ht, ?_⟩
    subst eH
    exact hq ds F P hΦ gF _ G ⟨sg_start r, dj, gG, gF⟩ _ (fun σ' ss' G' F' g _ p => go .non .n G' F' g .n p) go
section
variable {w : World} {K : PySem.W.Frag} {mg : Str → Option Value} {base : Heap}

theorem okk_Desk_init (T : TX K mg) {fd : FuncData} (F : FunD K dl_Desk_init.name dl_Desk_init.qual dl_Desk_init.params dl_Desk_init.body dl_Desk_init.scope [] dl_Desk_init.kwd (dl_Desk_init.adr K) fd) : FnOk PW w K mg base CX0 4 (mA "Desk" "__init__" K) fd ["self", "size", "mode", "capacity"] (PD K (ph_dinit K)) := by
  refine fnDk_of F n_Desk_init (fun ds F P ⟨_, _, _, _, _, e, _⟩ => by rw [e]; rfl) fun cdv A outer s H E hr => ⟨_, PSs.nox
    (pss_cons (ps_expr (pe_callR (ok_check_size T) (hr.mono (by decide)) rfl (g_check_size T) (k_check_size T) at0 (pa_cons (pv 1) pa_nil)))
      (pss_cons (ps_expr (pe_callR (ok_check_mode T) (hr.mono (by decide)) rfl (g_check_mode T) (k_check_mode T) at0 (pa_cons (pv 2) pa_nil)))
      (pss_cons (ps_if (PW.pt (pw_or (pt_cmpR op_lt (pv 3) pe_int (nomark _)) (pw_or1 (pt_cmpR op_gt (pv 3) (ClX.pe_cval (pe_glob (v := .ref _) rfl (g_Desk T) rfl)) (nomark _))))) (pss_one ps_never) pss_nil)
      (pss_cons (ps_fld (pv 0) (pv 1) rfl)
      (pss_cons (ps_fld (pv 0) (pv 3) rfl)
      (pss_cons (ps_fld (pv 0) (pv 2) rfl)
      (pss_cons (ps_fld (pv 0) (pe_lst pa_nil) rfl)
      (pss_cons (ps_fld (pv 0) (StX.pe_makeR (mk_Links T) (ok_Links_init T) (hr.mono (by decide)) rfl (g_Links T) pass0 (pa_cons (pv 1) pa_nil)) rfl)
      (pss_cons (ps_fld (pv 0) (pe_lst pa_nil) rfl)
      (pss_one (ps_fld (pv 0) (pe_lst pa_nil) rfl))))))))))), fun ds F P h gF => ?_⟩
  obtain ⟨a, dx, n, k, cap, rfl, hF, h0, h1, k0, k1, c0, c1, hP⟩ := h
  refine .seq (.drop (.evf (.call (.cons (.var rfl) .nil) ⟨n, h0, h1, rfl, rfl⟩) ?_))
  refine .seq (.drop (.evf (.call (.cons (.var rfl) .nil) ⟨k, k0, k1, rfl, rfl⟩) ?_))
  refine .seq (.ifF (c := decide (cap < 1) || decide (2000 < cap)) (.or (.test (.lt (.var rfl) .int)) (fun _ => .test (.gt (.var rfl) (.cvalI (v_Desk T))))) (by
    rw [decide_eq_false (by omega), decide_eq_false (by omega)]
    rfl) (.nil ?_))
  refine .seq (.fldSet (.evf (.var rfl) ⟨rfl, dx, _, hF, Nat.le_of_ble_eq_true rfl, ?_⟩) (.var rfl) (c_Desk T) (n_Desk_size T))
  refine .seq (.fldSet (.evf (.var rfl) ⟨rfl, dx, _, upd_same, Nat.le_of_ble_eq_true rfl, ?_⟩) (.var rfl) (c_Desk T) (n_Desk_capacity T))
  refine .seq (.fldSet (.evf (.var rfl) ⟨rfl, dx, _, upd_same, Nat.le_of_ble_eq_true rfl, ?_⟩) (.var rfl) (c_Desk T) (n_Desk_umode T))
  rw [upd_upd, upd_upd]
  refine .seq (RnF.mono (R := P) (N := fun ss' F' => ss' = [some (.m a), some (.i n), some (.s (modeN k)), some (.i cap)] ∧ ∃ lg, F' a = some (.ins (He.ga K "Desk") dx [("size", .int n), ("capacity", .int cap), ("_mode", .str (modeN k)), ("_log", .ref lg)]) ∧ F' lg = some (.lst []) ∧ Keep a F F')
    (.fldSet (.nilF fun q hq => ⟨rfl, dx, _, by rw [upd_ne (fun z => by rw [← z, upd_same] at hq; cases hq), upd_same], Nat.le_of_ble_eq_true rfl, ?_⟩) (.var rfl) (c_Desk T) (n_Desk_ulog T)) (fun ss' F1 ⟨e, lg, f1, f2, kp1⟩ => ?_) (fun _ _ z => z))
  · have qa : q ≠ a := fun z => by rw [z, upd_same] at hq; cases hq
    exact ⟨rfl, q, by rw [upd_same]; rfl, by rw [upd_ne qa, upd_same], (Keep.put.trans (Keep.new hq)).trans Keep.put⟩
  subst e
  refine .seq (RnF.mono (R := P) (N := fun ss' F' => ss' = [some (.m a), some (.i n), some (.s (modeN k)), some (.i cap)] ∧ ∃ lk dxl l r f, F' a = some (.ins (He.ga K "Desk") dx [("size", .int n), ("capacity", .int cap), ("_mode", .str (modeN k)), ("_log", .ref lg), ("_links", .ref lk)]) ∧ F' lg = some (.lst []) ∧ LkP K F' lk dxl l r f (St0 n) ∧ lg ≠ l ∧ lg ≠ r ∧ lg ≠ f ∧ Keep a F F')
    (.fldSet (.lkNew (.var rfl) h0 h1 fun b F2 ⟨⟨dxl, l, r, f, L, nb, nl, nr, nf⟩, sm⟩ => ⟨rfl, dx, _, sm _ _ f1, Nat.le_of_ble_eq_true rfl, ?_⟩) (.var rfl) (c_Desk T) (n_Desk_ulinks T)) (fun ss' F2 ⟨e, lk, dxl, l, r, f, f3, f4, L, n1, n2, n3, kp2⟩ => ?_) (fun _ _ z => z))
  · have ne : ∀ {p o}, F2 p = some o → F1 p = none → p ≠ a := fun e1 e2 z => by rw [z, f1] at e2; cases e2
    have lga : lg ≠ a := fun z => by rw [z, f1] at f2; cases f2
    refine ⟨rfl, b, dxl, l, r, f, by rw [upd_same]; rfl, by rw [upd_ne lga]; exact sm _ _ f2, ⟨?_, ?_, ?_, ?_, L.lr, L.lf, L.rf⟩, ne_of_none f2 nl, ne_of_none f2 nr, ne_of_none f2 nf, (kp1.trans fun p u _ e => sm p u e).trans Keep.put⟩
    · rw [upd_ne (ne L.oa nb)]; exact L.oa
    · rw [upd_ne (ne L.ol nl)]; exact L.ol
    · rw [upd_ne (ne L.or nr)]; exact L.or
    · rw [upd_ne (ne L.of nf)]; exact L.of
  subst e
  have ka : lk ≠ a := fun z => by
    have h2 := L.oa
    rw [z, f3] at h2
    have h3 := congrArg (fun o : Option HO => match o with | some (.ins _ _ fs) => fs.length | _ => 0) h2
    simp at h3
  have na : ∀ {p xs}, F2 p = some (.lst xs) → p ≠ a := fun e z => by rw [z, f3] at e; cases e
  refine .seq (.fldSet (.nilF fun st hst => ⟨rfl, dx, _, by rw [upd_ne (ne_of_none f3 hst)]; exact f3, Nat.le_of_ble_eq_true rfl, ?_⟩) (.var rfl) (c_Desk T) (n_Desk_ustarts T))
  have sa : st ≠ a := fun z => by rw [z, f3] at hst; cases hst
  refine .fldSet (.nilF fun un hun => ⟨rfl, dx, _, by rw [upd_ne (fun z => by rw [← z, upd_same] at hun; cases hun), upd_same], Nat.le_of_ble_eq_true rfl, ?_⟩) (.var rfl) (c_Desk T) (n_Desk_uundone T)
  have ua : un ≠ a := fun z => by rw [z, upd_same] at hun; cases hun
  rw [upd_ne ua] at hun
  have us : un ≠ st := fun z => by rw [z, upd_same] at hun; cases hun
  rw [upd_ne us] at hun
  have up : ∀ {p o}, F2 p = some o → p ≠ a → upd (upd (upd (upd F2 st (.lst [])) a (.ins (He.ga K "Desk") dx (putF "_starts" (vl (.m st)) [("size", .int n), ("capacity", .int cap), ("_mode", .str (modeN k)), ("_log", .ref lg), ("_links", .ref lk)]))) un (.lst [])) a (.ins (He.ga K "Desk") dx (putF "_undone" (vl (.m un)) (putF "_starts" (vl (.m st)) [("size", .int n), ("capacity", .int cap), ("_mode", .str (modeN k)), ("_log", .ref lg), ("_links", .ref lk)]))) p = some o := fun e hp => by
    rw [upd_ne hp, upd_ne (ne_of_none e hun), upd_ne hp, upd_ne (ne_of_none e hst)]
    exact e
  refine hP _ ⟨dx, lg, lk, st, un, dxl, l, r, f, []⟩ ⟨?_, up f4 (na f4), ⟨up L.oa ka, up L.ol (na L.ol), up L.or (na L.or), up L.of (na L.of), L.lr, L.lf, L.rf⟩, ?_, ?_, rfl, fun i b xs e => by simp at e, ne_of_none f4 hst, ne_of_none f4 hun, n1, n2, n3, Ne.symm us, Ne.symm (ne_of_none L.ol hst), Ne.symm (ne_of_none L.or hst), Ne.symm (ne_of_none L.of hst), Ne.symm (ne_of_none L.ol hun), Ne.symm (ne_of_none L.or hun), Ne.symm (ne_of_none L.of hun)⟩ fun b u hb e => up (kp2 b u hb e) hb
  · rw [upd_same]; rfl
  · rw [upd_ne sa, upd_ne (Ne.symm us), upd_ne sa, upd_same]; rfl
  · rw [upd_ne ua, upd_same]; rfl

theorem ps4 {us mv : List Value} : True := True.intro
/-- Desk(n), Desk(n, mode=m), Desk(n, capacity=c), Desk(n, mode=m, capacity=c): how they bind -/
theorem bind_desk0 (T : TX K mg) {fd : FuncData} (F : FunD K dl_Desk_init.name dl_Desk_init.qual dl_Desk_init.params dl_Desk_init.body dl_Desk_init.scope [] dl_Desk_init.kwd (dl_Desk_init.adr K) fd) : ∃ ds, Vals [V.str "free", V.int 200] ds ∧ Binds K fd ["self", "size", "mode", "capacity"] ds :=
  F.binds0 2 (by simp [dl_Desk_init]) rfl fun D doc pm an cdv ct us ks h1 h2 => match us, h1, ks, h2 with
    | [_, _], _, [_, _], _ => ⟨_, _, _, _, _, _, rfl, rfl, _, _, _, _, _, _, rfl, rfl, rfl⟩
end
end Lay
end
section
set_option Elab.async false
set_option linter.all false
set_option autoImplicit false
set_option maxRecDepth 100000
set_option maxHeartbeats 4000000
/-! own layer U: what draws, mixed ends -/
namespace Lay
open PySem PySem.Spec PyProof.Rows L2
abbrev bagO (a b c : Int) : HO := .lst [.int a, .int b, .int c]
abbrev bagV (a b c : Int) : DV := .l [.i a, .i b, .i c]
theorem rep_bag {K : PySem.W.Frag} {F : Hp} {p : Addr} {a b c : Int} (h : F p = some (bagO a b c)) : Rep K F (.ref p) (bagV a b c) := by
  have z := RepL.ints (K := K) (G := F) (xs := [a, b, c])
  exact .l h z.1 z.2
section
variable {K : PySem.W.Frag} {te ta tb tl to_ ti : TE} {tt tu : TT} {ts tr : TS} {tas : TA} {ss ss' : List (Option DV)} {F : Hp} {P P' : DV → Hp → Prop} {PB : Bool → Hp → Prop} {a b d d' : DV} {N : List (Option DV) → Hp → Prop} {R : DV → Hp → Prop} {c c1 c2 : Bool} {ds es : List DV}
/-- x[k] = e, the list in F, e flat -/
theorem RnF.setH {p : Addr} {vs : List V} {k : Int} {j : Nat} (he : EvF K te ss F fun d' F' => d' = d ∧ F' = F) (hx : EvD K to_ ss (.m p)) (hi : EvD K ti ss (.i k)) (hF : F p = some (.lst vs)) (hj : ixN vs.length k = some j) (hd : flatM d = true) (hn : N ss (upd F p (.lst (vs.set j (vl d))))) :
    RnF K (tAsg te (gSub to_ ti rSetL)) ss F N R := fun σ G o D nx rt =>
  he σ G o _ fun y d1 G1 F1 g1 ry ⟨e1, e2⟩ => by
    subst e1 e2
    refine hx.at (o.gr g1) fun x G2 g2 rx => hi.at (o.gr (g1.trans g2)) fun z G3 g3 rz => ?_
    obtain rfl := rx.m_inv
    obtain rfl := rz.int_inv
    have e := rep_vl ry hd
    subst e
    have hG : G3 p = none := (g3.dj p).resolve_right fun z => by rw [hF] at z; cases z
    refine ⟨p, vs, k, j, rfl, rfl, by rw [joi_r hG]; exact hF, hj, ?_⟩
    rw [joi_put hG]
    have g4 : Gr G3 G3 (upd F1 p (.lst (vs.set j (vl d1)))) := .put g3.dj g3.gG g3.gF hF
    exact nx σ ss G3 _ (((g1.trans g2).trans g3).trans g4) (o.gr ((g1.trans g2).trans g3)).sg hn
/-- x[e], e changes F -/
theorem EvF.ixLF (ha : EvD K ta ss (.l ds)) (hb : EvF K tb ss F fun d F' => ∃ i x, d = .i i ∧ atI ds i = some x ∧ P x F') : EvF K (tOp (rIxL K) ta tb) ss F P := fun σ G o Q q =>
  ha.at o fun x G1 g1 rx => hb σ G1 (o.gr g1) _ fun y d G2 F2 g2 ry ⟨i, z, e, h, p⟩ => by
    subst e
    obtain ⟨l, vs, rfl, h1, h2⟩ := rx.l_inv
    obtain rfl := ry.int_inv
    obtain ⟨v, hv, rv⟩ := h2.atI h
    exact ⟨l, vs, i, v, rfl, rfl, .of (joi_l (g2.sm _ _ h1)), hv, q v z G2 F2 (g1.trans g2) (rv.same g2.sm) p⟩
theorem EvF.addR {i : Int} (ha : EvD K ta ss (.i i)) (hb : EvF K tb ss F fun d F' => ∃ j, d = .i j ∧ P (.i (i + j)) F') : EvF K (tOp (L2.rI0 fun i j => .int (i + j)) ta tb) ss F P := fun σ G o Q q =>
  ha.at o fun x G1 g1 rx => hb σ G1 (o.gr g1) _ fun y d G2 F2 g2 ry ⟨j, e, p⟩ => by
    subst e
    obtain rfl := rx.int_inv
    obtain rfl := ry.int_inv
    exact ⟨i, j, rfl, rfl, q _ _ G2 F2 (g1.trans g2) (.i _) p⟩
/-- a test of what changes F -/
theorem EvF.eqL {j : Int} (ha : EvF K ta ss F fun d F' => ∃ i, d = .i i ∧ P (.b (decide (i = j))) F') (hb : EvD K tb ss (.i j)) : EvF K (tOp rEq ta tb) ss F P := fun σ G o Q q =>
  ha σ G o _ fun x d G1 F1 g1 rx ⟨i, e, p⟩ => hb.at (o.gr g1) fun y G2 g2 ry => by
    subst e
    obtain rfl := rx.int_inv
    obtain rfl := ry.int_inv
    refine ⟨rfl, ?_⟩
    have e : decide (V.int i = V.int j) = decide (i = j) := by simp
    rw [e]
    exact q _ _ G2 F1 (g1.trans g2) (.b _) p
theorem EvF.gtL {j : Int} (ha : EvF K ta ss F fun d F' => ∃ i, d = .i i ∧ P (.b (decide (j < i))) F') (hb : EvD K tb ss (.i j)) : EvF K (tOp (L2.rI0 fun i j => .bl (decide (j < i))) ta tb) ss F P := fun σ G o Q q =>
  ha σ G o _ fun x d G1 F1 g1 rx ⟨i, e, p⟩ => hb.at (o.gr g1) fun y G2 g2 ry => by
    subst e
    obtain rfl := rx.int_inv
    obtain rfl := ry.int_inv
    exact ⟨i, j, rfl, rfl, q _ _ G2 F1 (g1.trans g2) (.b _) p⟩
/-- x[:e], e changes F -/
theorem EvF.cutF (h : EvD K te ss (.l ds)) (hh : EvF K tb ss F fun d F' => ∃ i, d = .i i ∧ P (.l (cutD ds none (some i))) F') : EvF K (tSl (rSlL K) te tNoPart (tPart tb)) ss F P := fun σ G o Q q =>
  h.at o fun x G1 g1 rx => by
    refine hh σ G1 (o.gr g1) _ fun y d G3 F3 g3 ry ⟨i, e, p⟩ => ?_
    subst e
    obtain rfl := ry.int_inv
    refine ⟨i, rfl, ?_⟩
    obtain ⟨a, ws, rfl, ha, hr⟩ := (rx.same g3.sm).l_inv
    refine ⟨a, ws, rfl, .of (joi_l ha), fun r hp => ?_⟩
    have g4 : Gr G3 (upd G3 r (.lst (cutV ws none (some i)))) F3 := .new g3.dj g3.gG g3.gF hp
    rw [joi_new]
    have hr2 := ((hr.drop (HT.sIx ws.length 0 none)).take (HT.sIx ws.length ws.length (some i) - HT.sIx ws.length 0 none)).same g4.sm
    have hr3 : RepL K (upd G3 r (.lst (cutV ws none (some i)))) (cutV ws none (some i)) (cutD ds none (some i)) := by
      have e : cutD ds none (some i) = (ds.drop (HT.sIx ws.length 0 none)).take (HT.sIx ws.length ws.length (some i) - HT.sIx ws.length 0 none) := by unfold cutD; rw [hr.1]
      rw [e]
      exact hr2
    exact q _ _ _ _ ((g1.trans g3).trans g4) (.l upd_same hr3.1 hr3.2) p
theorem EvD.fdiv {i j : Int} (ha : EvD K ta ss (.i i)) (hb : EvD K tb ss (.i j)) (hc : CDiv i j) : EvD K (tOp (L2.rI CDiv fun i j => .int (i / j)) ta tb) ss (.i (i / j)) := EvD.rI ha hb hc
theorem EvD.pow {i j : Int} (ha : EvD K ta ss (.i i)) (hb : EvD K tb ss (.i j)) (hc : CPow i j) : EvD K (tOp (L2.rI CPow fun i j => .int (i ^ j.toNat)) ta tb) ss (.i (i ^ j.toNat)) := EvD.rI ha hb hc
end
theorem atI_at {α : Type} {xs : List α} {c : Int} {y : α} (h0 : 0 ≤ c) (h1 : c < xs.length) : atI xs c = some ((xs[c.toNat]?).getD y) := by
  unfold atI
  rw [ixN_tab h0 h1]
  show xs[c.toNat]? = _
  rw [List.getElem?_eq_getElem (by omega)]
  rfl
/-- what draw gives: any r below many, any bag -/
def DrawR (g : Addr) (F : Hp) (m : Int) (P : DV → Hp → Prop) : Prop := ∀ r a b c, 0 ≤ r → r < m → 0 ≤ a → 0 ≤ c → P (.i r) (upd F g (bagO a b c))
def Bag (g : Addr) (F : Hp) : Prop := ∃ a b c, F g = some (bagO a b c) ∧ 0 ≤ a ∧ 0 ≤ c
theorem Bag.put {g : Addr} {F : Hp} {a b c : Int} (h0 : 0 ≤ a) (h1 : 0 ≤ c) : Bag g (upd F g (bagO a b c)) := ⟨a, b, c, upd_same, h0, h1⟩
def ph_draw : Ph := fun ds F P => ∃ g xs m, ds = [.m g, .sc xs, .i m] ∧ Bag g F ∧ 1 ≤ m ∧ m < 1000000 ∧ DrawR g F m P
section
variable {K : PySem.W.Frag} {te ta tb tl to_ ti : TE} {tt tu : TT} {ss ss' : List (Option DV)}
theorem filter_mapI {xs : List Int} {p : Int → Bool} {f : Int → Int} {p' : DV → Bool} {f' : DV → DV} (h1 : ∀ x, p' (.i x) = p x) (h2 : ∀ x, f' (.i x) = .i (f x)) : ((xs.map DV.i).filter p').map f' = ((xs.filter p).map f).map DV.i := by
  induction xs with
  | nil => rfl
  | cons x xs ih =>
    rw [List.map_cons, List.filter_cons, List.filter_cons, h1]
    cases p x
    · exact ih
    · show f' (.i x) :: _ = _
      rw [h2]
      exact congrArg _ ih
/-- a comprehension over a list of ints -/
theorem EvD.lcI {i : Nat} {xs : List Int} {p : Int → Bool} {f : Int → Int} (hl : EvD K tl ss (.l (xs.map DV.i))) (ht : ∀ x, x ∈ xs → EvB K tt ((ss.set i none).set i (some (.i x))) (p x)) (he : ∀ x, x ∈ xs → p x = true → EvD K te ((ss.set i none).set i (some (.i x))) (.i (f x))) (hz : xs.length ≤ 1000) :
    EvD K (tLc (iList K tl) (gName i) tt te [i]) ss (.l (((xs.filter p).map f).map DV.i)) := by
  have z := EvD.lcL (K := K) (i := i) (tt := tt) (te := te) (p := fun d => match d with | .i x => p x | _ => false) (f := fun d => match d with | .i x => .i (f x) | d => d) hl (fun d hd => by
    obtain ⟨x, hx, rfl⟩ := List.mem_map.mp hd
    exact ht x hx) (fun d hd hp => by
    obtain ⟨x, hx, rfl⟩ := List.mem_map.mp hd
    exact he x hx hp) (by rw [List.length_map, sizeLine_eq]; omega)
  rwa [filter_mapI (fun _ => rfl) (fun _ => rfl)] at z
theorem EvD.lcIY {i : Nat} {xs : List Int} {f : Int → Int} (hl : EvD K tl ss (.l (xs.map DV.i))) (he : ∀ x, x ∈ xs → EvD K te ((ss.set i none).set i (some (.i x))) (.i (f x))) (hz : xs.length ≤ 1000) :
    EvD K (tLc (iList K tl) (gName i) tYes te [i]) ss (.l ((xs.map f).map DV.i)) := by
  have z := EvD.lcI (K := K) (i := i) (p := fun _ => true) hl (fun x hx => .yes) (fun x hx _ => he x hx) hz
  rwa [filter_true fun _ => rfl] at z
theorem cutD_ints {xs : List Int} {i : Int} : cutD (xs.map DV.i) none (some i) = (xs.take (HT.sIx xs.length xs.length (some i))).map DV.i := by
  unfold cutD
  have e : HT.sIx (xs.map DV.i).length 0 none = 0 := rfl
  rw [e, List.drop_zero, Nat.sub_zero, List.length_map, List.map_take]
end
theorem EvD.lenI {K : PySem.W.Frag} {te : TE} {ss : List (Option DV)} {xs : List Int} (h : EvD K te ss (.l (xs.map DV.i))) : EvD K (tCB (rLenS K) (tCons te tNil)) ss (.i xs.length) := by
  have z := EvD.len h
  rwa [List.length_map] at z
theorem atI_ints {xs : List Int} {c : Int} (h0 : 0 ≤ c) (h1 : c < xs.length) : ∃ x, x ∈ xs ∧ atI (xs.map DV.i) c = some (.i x) := by
  have hl : c.toNat < xs.length := by omega
  refine ⟨xs[c.toNat], List.getElem_mem hl, ?_⟩
  unfold atI
  rw [ixN_tab h0 (by rw [List.length_map]; exact h1)]
  show (xs.map DV.i)[c.toNat]? = _
  rw [List.getElem?_map, List.getElem?_eq_getElem hl]
  rfl
theorem bI_range (b : Bool) : 0 ≤ bI b ∧ bI b ≤ 1 := by cases b <;> decide
theorem hu_of {k : Nat} {A : Around} (r : Room k A) : A.units + 1 < cLine := by have := r.units; omega
theorem neDr (K : PySem.W.Frag) {X : Cx} (hu : X.A.units + 64 < cLine) (h : X.K = K := by rfl) : OpR X (compareOp .NotEq) (rNeD K) := h ▸ op_neD hu
theorem eqDr (K : PySem.W.Frag) {X : Cx} (hu : X.A.units + 64 < cLine) (h : X.K = K := by rfl) : OpR X (compareOp .Eq) (rEqD K) := h ▸ op_eqD hu
theorem Bag.self {g : Addr} {F : Hp} (h : Bag g F) : ∃ a b c, 0 ≤ a ∧ 0 ≤ c ∧ F = upd F g (bagO a b c) := by
  obtain ⟨a, b, c, h, a0, c0⟩ := h
  exact ⟨a, b, c, a0, c0, (upd_self h).symm⟩
end Lay
end
section
set_option Elab.async false
set_option linter.all false
set_option autoImplicit false
set_option maxRecDepth 100000
set_option maxHeartbeats 4000000
namespace Lay
open PySem PySem.Spec PyProof.Rows L2


section
variable {w : World} {K : PySem.W.Frag} {mg : Str → Option Value} {base : Heap}

theorem ok_ulaw_draw (T : TX K mg) : FnR PW w K mg base CX0 1 (gA "_law_draw" K) (PD K ph_draw) := by
  obtain ⟨fd, F⟩ := f_ulaw_draw T
  refine fnD_of F n_ulaw_draw (F.bindsN fun _ _ _ _ _ _ us hl => match us, hl with | [_, _, _], _ => rfl) (fun ds F P ⟨_, _, _, e, _⟩ => by rw [e]; rfl) fun cdv A outer s H E hr => ⟨_, PSs.nox
    (pss_cons (ps_asg (pe_op op_add (pe_ix ix_list (pv 0) pe_int (fun _ _ => rfl)) pe_int) (pg_sub (pv 0) pe_int set_list))
      (pss_cons (ps_if (PW.pt (pw_and (pt_cmpR op_eq (pe_ix ix_list (pv 0) pe_int (fun _ _ => rfl)) pe_int (nomark _)) (pw_and (pt_cmpR op_lt (pe_ix ix_list (pv 0) pe_int (fun _ _ => rfl)) (pe_callB call_len_seq (by rfl) (b_len T) boot_len' (pa_cons (pv 1) pa_nil)) (nomark _)) (pw_and1 (pt_cmpR op_ge (pe_ix ix_list (pv 1) (pe_ix ix_list (pv 0) pe_int (fun _ _ => rfl)) (fun _ _ => rfl)) (pe_op op_pow pe_int pe_int) (nomark _)))))) (pss_cons (ps_asg (pe_ix ix_list (pv 1) (pe_ix ix_list (pv 0) pe_int (fun _ _ => rfl)) (fun _ _ => rfl)) (pg_sub (pv 0) pe_int set_list))
      (pss_one (ps_asg (pe_op op_add (pe_ix ix_list (pv 0) pe_int (fun _ _ => rfl)) pe_int) (pg_sub (pv 0) pe_int set_list)))) pss_nil)
      (pss_cons (ps_if (pt_cmpR op_gt (pe_ix ix_list (pv 0) pe_int (fun _ _ => rfl)) pe_int (nomark _)) (pss_cons (ps_set (i := 3) n_ulaw_draw.nd rfl (by first | exact .inl rfl | exact .inr rfl) (pe_op op_mod (pe_callTy call_int1 (by rfl) (b_int T) boot_int' (pa_cons (pe_ix ix_list (pv 0) pe_int (fun _ _ => rfl)) pa_nil)) (pv 2)))
      (pss_cons (ps_asg (pe_op op_fdiv (pe_ix ix_list (pv 0) pe_int (fun _ _ => rfl)) (pv 2)) (pg_sub (pv 0) pe_int set_list))
      (pss_one (ps_ret (pv 3))))) pss_nil)
      (pss_cons (ps_set (i := 4) n_ulaw_draw.nd rfl (by first | exact .inl rfl | exact .inr rfl) pe_int)
      (pss_cons (ps_if (pt_cmpR op_gt (pe_callB call_len_seq (by rfl) (b_len T) boot_len' (pa_cons (pv 1) pa_nil)) pe_int (nomark _)) (pss_one (ps_set (i := 4) n_ulaw_draw.nd rfl (by first | exact .inl rfl | exact .inr rfl) (pe_ix ix_list (pv 1) (pe_op op_mod (pe_callTy call_int1 (by rfl) (b_int T) boot_int' (pa_cons (pe_ix ix_list (pv 0) pe_int (fun _ _ => rfl)) pa_nil)) (pe_callB call_len_seq (by rfl) (b_len T) boot_len' (pa_cons (pv 1) pa_nil))) (fun _ _ => rfl)))) pss_nil)
      (pss_cons (ps_asg (pe_op op_add (pe_ix ix_list (pv 0) pe_int (fun _ _ => rfl)) pe_int) (pg_sub (pv 0) pe_int set_list))
      (pss_cons (ps_set (i := 5) n_ulaw_draw.nd rfl (by first | exact .inl rfl | exact .inr rfl) (pe_op op_mod (pe_op op_add (pe_op op_add (pe_op op_mul (pe_callTy call_int1 (by rfl) (b_int T) boot_int' (pa_cons (pv 4) pa_nil)) pe_int) (pe_op op_mul (pe_callTy call_int1 (by rfl) (b_int T) boot_int' (pa_cons (pe_ix ix_list (pv 0) pe_int (fun _ _ => rfl)) pa_nil)) pe_int)) pe_int) pe_int))
      (pss_cons (ps_set (i := 5) n_ulaw_draw.nd rfl (by first | exact .inl rfl | exact .inr rfl) (pe_op op_mod (pe_op op_add (pe_op op_add (pe_op op_mul (pv 5) (pv 5)) (pe_op op_mul (pv 5) pe_int)) pe_int) pe_int))
      (pss_one (ps_ret (pe_op op_mod (pe_op op_fdiv (pv 5) pe_int) (pv 2)))))))))))), fun ds F P h gF => ?_⟩
  obtain ⟨g, xs, m, rfl, ⟨a, b, c, hF, a0, c0⟩, m0, m1, hP⟩ := h
  refine .seq (RnF.setH (EvF.see (i := 0) rfl (rep_bag hF) (.add (.ixL (d := .i b) (.var rfl) .int rfl) .int) rfl ⟨rfl, rfl⟩) (.var rfl) .int hF rfl rfl ?_)
  refine .seq (RnF.mono (R := P) (N := fun ss' F' => ss' = [some (.m g), some (.sc xs), some (.i m), none, none, none] ∧ ∃ a b c, 0 ≤ a ∧ 0 ≤ c ∧ F' = upd F g (bagO a b c)) (.ifS (.see (i := 0) rfl (rep_bag upd_same) (.and (.test (.eqI (.ixL (d := .i a) (.var rfl) .int rfl) .int)) (fun _ => .and (.test (.lt (.ixL (d := .i c) (.var rfl) .int rfl) (.lenS (.var rfl)))) (fun h1 => .test (.ge (.ixS (j := (xs[c.toNat]?).getD 0) (.var rfl) (.ixL (d := .i c) (.var rfl) .int rfl) ?_) (.pow .int .int ?_))))) ?_)) (fun ss' F1 ⟨e1, a, b, c, a0, c0, e2⟩ => ?_) (fun _ _ z => z))
  · exact atI_at c0 (of_decide_eq_true h1)
  · exact ⟨by decide, by decide, by decide⟩
  · split
    · rename_i hc
      simp only [Bool.and_eq_true, decide_eq_true_eq] at hc
      obtain ⟨h1, h2, h3⟩ := hc
      have hx : atI xs c = some ((xs[c.toNat]?).getD 0) := atI_at c0 h2
      refine .seq (RnF.setH (EvF.see (i := 0) rfl (rep_bag upd_same) (.ixS (.var rfl) (.ixL (d := .i c) (.var rfl) .int rfl) hx) rfl ⟨rfl, rfl⟩) (.var rfl) .int upd_same rfl rfl ?_)
      refine RnF.setH (EvF.see (i := 0) rfl (rep_bag upd_same) (.add (.ixL (d := .i c) (.var rfl) .int rfl) .int) rfl ⟨rfl, rfl⟩) (.var rfl) .int upd_same rfl rfl ?_
      refine ⟨rfl, (xs[c.toNat]?).getD 0, b + 1, c + 1, ?_, by omega, by rw [upd_upd, upd_upd]; rfl⟩
      have h4 : (10 : Int) ^ (18 : Int).toNat = 1000000000000000000 := by decide
      omega
    · exact .nil ⟨rfl, a, b + 1, c, a0, c0, rfl⟩
  subst e1 e2
  have hF1 : upd F g (bagO a b c) g = some (bagO a b c) := upd_same
  refine .seq (.ifS (.see (i := 0) rfl (rep_bag hF1) (.test (.gt (.ixL (d := .i a) (.var rfl) .int rfl) .int)) ?_))
  split
  · rename_i hc
    refine .seq (.asg (EvF.see (i := 0) rfl (rep_bag hF1) (.mod (.intI (.ixL (d := .i a) (.var rfl) .int rfl)) (.var rfl) (by omega)) rfl ?_))
    refine .seq (RnF.setH (EvF.see (i := 0) rfl (rep_bag hF1) (.fdiv (.ixL (d := .i a) (.var rfl) .int rfl) (.var rfl) ⟨(by omega), (by omega)⟩) rfl ⟨rfl, rfl⟩) (.var rfl) .int hF1 rfl rfl ?_)
    refine .ret (.evf (.var rfl) ?_)
    rw [upd_upd]
    exact hP _ _ _ _ (Int.emod_nonneg _ (by omega)) (Int.emod_lt_of_pos _ (by omega)) (Int.ediv_nonneg a0 (by omega)) c0
  refine .nil ?_
  refine .seq (.asg (.evf .int ?_))
  refine .seq (RnF.mono (R := P) (N := fun ss' F' => ∃ j, ss' = [some (.m g), some (.sc xs), some (.i m), none, some (.i j), none] ∧ F' = upd F g (bagO a b c)) (.ifB (.test (.gt (.lenS (.var rfl)) .int)) (fun h1 => ?_) (fun _ => .nil ⟨_, rfl, rfl⟩)) (fun ss' F1 ⟨j, e1, e2⟩ => ?_) (fun _ _ z => z))
  · have h2 := of_decide_eq_true h1
    have p1 := Int.emod_nonneg c (show (xs.length : Int) ≠ 0 by omega)
    have p2 := Int.emod_lt_of_pos c (show 0 < (xs.length : Int) by omega)
    refine .asg (EvF.see (i := 0) rfl (rep_bag hF1) (.ixS (j := (xs[(c % xs.length).toNat]?).getD 0) (.var rfl) (.mod (.intI (.ixL (d := .i c) (.var rfl) .int rfl)) (.lenS (.var rfl)) (by omega)) ?_) rfl ⟨_, rfl, rfl⟩)
    exact atI_at p1 p2
  subst e1 e2
  refine .seq (RnF.setH (EvF.see (i := 0) rfl (rep_bag hF1) (.add (.ixL (d := .i c) (.var rfl) .int rfl) .int) rfl ⟨rfl, rfl⟩) (.var rfl) .int hF1 rfl rfl ?_)
  rw [upd_upd, show (HO.lst ([V.int a, V.int b, V.int c].set (Int.toNat 2) (vl (DV.i (c + 1))))) = bagO a b (c + 1) from rfl]
  refine .seq (.asg (EvF.see (i := 0) rfl (rep_bag upd_same) (.mod (.add (.add (.mul (.intI (.var rfl)) .int (.inr ⟨by decide, by decide⟩)) (.mul (.intI (.ixL (d := .i b) (.var rfl) .int rfl)) .int (.inr ⟨by decide, by decide⟩))) .int) .int (by omega)) rfl ?_))
  generalize hy : ((j * 48271 + b * 1597334677 + 11) % 2147483647 : Int) = y
  have y0 : 0 ≤ y := by omega
  have y1 : y < 2147483647 := by omega
  refine .seq (.asg (.evf (.mod (.add (.add (.mul (.var rfl) (.var rfl) (.inl ⟨(by omega), (by omega)⟩)) (.mul (.var rfl) .int (.inl ⟨(by omega), (by omega)⟩))) .int) .int (by omega)) ?_))
  generalize hz : ((y * y + y * 40692 + 5) % 2147483399 : Int) = z
  have z0 : 0 ≤ z := by omega
  refine .ret (.evf (.mod (.fdiv (.var rfl) .int ⟨(by omega), (by omega)⟩) (.var rfl) (by omega)) ?_)
  exact hP _ _ _ _ (Int.emod_nonneg _ (by omega)) (Int.emod_lt_of_pos _ (by omega)) a0 (by omega)

end

def ph_size : Ph := fun ds F P => ∃ g xs, ds = [.m g, .sc xs] ∧ Bag g F ∧ DrawR g F 61 P
def ph_room : Ph := fun ds F P => ∃ g xs, ds = [.m g, .sc xs] ∧ Bag g F ∧ DrawR g F 2001 fun d F' => d ≠ .i 0 → P d F'
section
variable {w : World} {K : PySem.W.Frag} {mg : Str → Option Value} {base : Heap}

theorem ok_ulaw_size (T : TX K mg) : FnR PW w K mg base CX0 2 (gA "_law_size" K) (PD K ph_size) := by
  obtain ⟨fd, F⟩ := f_ulaw_size T
  refine fnD_of F n_ulaw_size (F.bindsN fun _ _ _ _ _ _ us hl => match us, hl with | [_, _], _ => rfl) (fun ds F P ⟨_, _, e, _⟩ => by rw [e]; rfl) fun cdv A outer s H E hr => ⟨_, PSs.nox
    (pss_cons (ps_set (i := 2) n_ulaw_size.nd rfl (by first | exact .inl rfl | exact .inr rfl) (pe_callR (ok_ulaw_draw T) (hr.mono (by decide)) rfl (g_ulaw_draw T) (k_ulaw_draw T) at0 (pa_cons (pv 0) (pa_cons (pv 1) (pa_cons pe_int pa_nil)))))
      (pss_cons (ps_if (pt_cmpR op_eq (pv 2) pe_int (nomark _)) (pss_one (ps_ret (pe_op op_add pe_int (pe_callR (ok_ulaw_draw T) (hr.mono (by decide)) rfl (g_ulaw_draw T) (k_ulaw_draw T) at0 (pa_cons (pv 0) (pa_cons (pv 1) (pa_cons pe_int pa_nil))))))) pss_nil)
      (pss_cons (ps_if (pt_cmpR op_eq (pv 2) pe_int (nomark _)) (pss_one (ps_ret (pe_callR (ok_ulaw_draw T) (hr.mono (by decide)) rfl (g_ulaw_draw T) (k_ulaw_draw T) at0 (pa_cons (pv 0) (pa_cons (pv 1) (pa_cons pe_int pa_nil)))))) pss_nil)
      (pss_one (ps_ret (pe_op op_add pe_int (pe_callR (ok_ulaw_draw T) (hr.mono (by decide)) rfl (g_ulaw_draw T) (k_ulaw_draw T) at0 (pa_cons (pv 0) (pa_cons (pv 1) (pa_cons pe_int pa_nil)))))))))), fun ds F P h gF => ?_⟩
  obtain ⟨g, xs, rfl, hB, hP⟩ := h
  refine .seq (.asg (.call (.eva (.cons (.var rfl) (.cons (.var rfl) (.cons .int .nil))) ⟨g, xs, 12, rfl, hB, (by omega), (by omega), fun r a b c r0 r1 a0 c0 => ?_⟩)))
  refine .seq (.ifB (.test (.eqI (.var rfl) .int)) (fun _ => .ret (.addR .int (.call (.eva (.cons (.var rfl) (.cons (.var rfl) (.cons .int .nil))) ⟨g, xs, 54, rfl, (.put a0 c0), (by omega), (by omega), fun r a b c r0 r1 a0 c0 => ⟨_, rfl, ?_⟩⟩)))) (fun _ => .nil ?_))
  · rw [upd_upd]
    exact hP _ _ _ _ (by omega) (by omega) (by omega) (by omega)
  refine .seq (.ifB (.test (.eqI (.var rfl) .int)) (fun _ => .ret (.call (.eva (.cons (.var rfl) (.cons (.var rfl) (.cons .int .nil))) ⟨g, xs, 3, rfl, (.put a0 c0), (by omega), (by omega), fun r a b c r0 r1 a0 c0 => ?_⟩))) (fun _ => .nil ?_))
  · rw [upd_upd]
    exact hP _ _ _ _ (by omega) (by omega) (by omega) (by omega)
  refine .ret (.addR .int (.call (.eva (.cons (.var rfl) (.cons (.var rfl) (.cons .int .nil))) ⟨g, xs, 4, rfl, (.put a0 c0), (by omega), (by omega), fun r a b c r0 r1 a0 c0 => ⟨_, rfl, ?_⟩⟩)))
  rw [upd_upd]
  exact hP _ _ _ _ (by omega) (by omega) (by omega) (by omega)

theorem ok_ulaw_room (T : TX K mg) : FnR PW w K mg base CX0 2 (gA "_law_room" K) (PD K ph_room) := by
  obtain ⟨fd, F⟩ := f_ulaw_room T
  refine fnD_of F n_ulaw_room (F.bindsN fun _ _ _ _ _ _ us hl => match us, hl with | [_, _], _ => rfl) (fun ds F P ⟨_, _, e, _⟩ => by rw [e]; rfl) fun cdv A outer s H E hr => ⟨_, PSs.nox
    (pss_cons (ps_set (i := 2) n_ulaw_room.nd rfl (by first | exact .inl rfl | exact .inr rfl) (pe_callR (ok_ulaw_draw T) (hr.mono (by decide)) rfl (g_ulaw_draw T) (k_ulaw_draw T) at0 (pa_cons (pv 0) (pa_cons (pv 1) (pa_cons pe_int pa_nil)))))
      (pss_cons (ps_if (pt_cmpR op_lt (pv 2) pe_int (nomark _)) (pss_one (ps_ret pe_int)) pss_nil)
      (pss_cons (ps_if (pt_cmpR op_eq (pv 2) pe_int (nomark _)) (pss_one (ps_ret (pe_op op_add pe_int (pe_callR (ok_ulaw_draw T) (hr.mono (by decide)) rfl (g_ulaw_draw T) (k_ulaw_draw T) at0 (pa_cons (pv 0) (pa_cons (pv 1) (pa_cons pe_int pa_nil))))))) pss_nil)
      (pss_one (ps_ret (pe_op op_add pe_int (pe_callR (ok_ulaw_draw T) (hr.mono (by decide)) rfl (g_ulaw_draw T) (k_ulaw_draw T) at0 (pa_cons (pv 0) (pa_cons (pv 1) (pa_cons pe_int pa_nil)))))))))), fun ds F P h gF => ?_⟩
  obtain ⟨g, xs, rfl, hB, hP⟩ := h
  refine .seq (.asg (.call (.eva (.cons (.var rfl) (.cons (.var rfl) (.cons .int .nil))) ⟨g, xs, 6, rfl, hB, (by omega), (by omega), fun r a b c r0 r1 a0 c0 => ?_⟩)))
  refine .seq (.ifB (.test (.lt (.var rfl) .int)) (fun _ => .ret (.evf .int (hP _ _ _ _ (by omega) (by omega) (by omega) (by omega) (fun z => absurd (DV.i.inj z) (by omega))))) (fun _ => .nil ?_))
  refine .seq (.ifB (.test (.eqI (.var rfl) .int)) (fun _ => .ret (.addR .int (.call (.eva (.cons (.var rfl) (.cons (.var rfl) (.cons .int .nil))) ⟨g, xs, 2000, rfl, (.put a0 c0), (by omega), (by omega), fun r a b c r0 r1 a0 c0 => ⟨_, rfl, ?_⟩⟩)))) (fun _ => .nil ?_))
  · rw [upd_upd]
    exact hP _ _ _ _ (by omega) (by omega) (by omega) (by omega) (fun z => absurd (DV.i.inj z) (by omega))
  refine .ret (.addR .int (.call (.eva (.cons (.var rfl) (.cons (.var rfl) (.cons .int .nil))) ⟨g, xs, 18, rfl, (.put a0 c0), (by omega), (by omega), fun r a b c r0 r1 a0 c0 => ⟨_, rfl, ?_⟩⟩)))
  rw [upd_upd]
  exact hP _ _ _ _ (by omega) (by omega) (by omega) (by omega) (fun z => absurd (DV.i.inj z) (by omega))

end
end Lay
end
section
set_option Elab.async false
set_option linter.all false
set_option autoImplicit false
set_option maxRecDepth 100000
set_option maxHeartbeats 4000000
/-! own layer V: a dict in F, of which one field is data -/
namespace Lay
open PySem PySem.Spec PyProof.Rows L2
/-- what leans on no dict -/
inductive ND : DV → Prop
  | n : ND .n
  | b (x : Bool) : ND (.b x)
  | i (x : Int) : ND (.i x)
  | s (x : Str) : ND (.s x)
  | m (x : Addr) : ND (.m x)
  | l {ds : List DV} : (∀ d, d ∈ ds → ND d) → ND (.l ds)
  | t {ds : List DV} : (∀ d, d ∈ ds → ND d) → ND (.t ds)
theorem ND.flat {d : DV} (h : flatM d = true) : ND d := by
  cases d <;> first | exact .n | exact .b _ | exact .i _ | exact .s _ | exact .m _ | cases h
theorem ND.ints {xs : List Int} : ND (.l (xs.map DV.i)) := .l fun d hd => by
  obtain ⟨x, _, rfl⟩ := List.mem_map.mp hd
  exact .i x
theorem ND.nil : ND (.l []) := .l fun d hd => by cases hd
theorem ND.consL {d : DV} {ds : List DV} (h : ND d) (t : ND (.l ds)) : ND (.l (d :: ds)) := .l fun e he => by
  cases t with
  | l t =>
    cases he with
    | head => exact h
    | tail _ he => exact t e he
theorem ND.nilT : ND (.t []) := .t fun d hd => by cases hd
theorem ND.consT {d : DV} {ds : List DV} (h : ND d) (t : ND (.t ds)) : ND (.t (d :: ds)) := .t fun e he => by
  cases t with
  | t t =>
    cases he with
    | head => exact h
    | tail _ he => exact t e he
theorem ND.strs {xs : List Str} : ND (.l (xs.map DV.s)) := .l fun d hd => by
  obtain ⟨x, _, rfl⟩ := List.mem_map.mp hd
  exact .s x
theorem ND.tabI {m : Int} {f : Int → Int} : ND (.l (tab m fun v => .i (f v))) := .l fun d hd => by
  obtain ⟨x, _, _, rfl⟩ := tab_mem hd
  exact .i _
theorem ND.tabB {m : Int} {f : Int → Bool} : ND (.l (tab m fun v => .b (f v))) := .l fun d hd => by
  obtain ⟨x, _, _, rfl⟩ := tab_mem hd
  exact .b _
theorem ND.st {s : St} : ND s.D := .consL .tabI (.consL .tabI (.consL .tabB .nil))
section
variable {K : PySem.W.Frag} {te ta tb tl td ty tv : TE} {tt tu : TT} {ts tr : TS} {tas : TA} {ss ss' : List (Option DV)} {F F0 G G2 : Hp} {P P' : DV → Hp → Prop} {PB : Bool → Hp → Prop} {a b d d' d1 e : DV} {N : List (Option DV) → Hp → Prop} {R : DV → Hp → Prop} {c c1 c2 : Bool} {ds es : List DV} {v w : V} {kvs : List (Key × V)} {g : Addr}
theorem sql_less {p : Addr} {vs : List V} (e : ∀ a o, G a = some o → (∀ kvs, o ≠ .dK kvs) → G2 a = some o) (h : SqL K G p vs) : SqL K G2 p vs := by
  rcases h with h | h
  · refine .inl ?_
    unfold Rd at h ⊢
    rcases h with h | ⟨o, h⟩
    · exact .inl (e _ _ h fun _ z => by cases z)
    · exact .inr ⟨o, e _ _ h fun _ z => by cases z⟩
  · exact .inr h
theorem sqt_less {p : Addr} {vs : List V} (e : ∀ a o, G a = some o → (∀ kvs, o ≠ .dK kvs) → G2 a = some o) (h : SqT K G p vs) : SqT K G2 p vs := by
  rcases h with h | h
  · refine .inl ?_
    unfold Rd at h ⊢
    rcases h with h | ⟨o, h⟩
    · exact .inl (e _ _ h fun _ z => by cases z)
    · exact .inr ⟨o, e _ _ h fun _ z => by cases z⟩
  · exact .inr h
theorem Rep.less (e : ∀ a o, G a = some o → (∀ kvs, o ≠ .dK kvs) → G2 a = some o) (h : Rep K G v d) : ND d → Rep K G2 v d := by
  induction h with
  | n => exact fun _ => .n
  | b b => exact fun _ => .b b
  | i b => exact fun _ => .i b
  | s b => exact fun _ => .s b
  | m b => exact fun _ => .m b
  | l h1 h2 h3 ih =>
    intro nd
    cases nd with
    | l nd => exact .l (e _ _ h1 fun _ z => by cases z) h2 fun k v d hv hd => ih k v d hv hd (nd d (List.mem_of_getElem? hd))
  | t h1 h2 h3 ih =>
    intro nd
    cases nd with
    | t nd => exact .t (sqt_less e h1) h2 fun k v d hv hd => ih k v d hv hd (nd d (List.mem_of_getElem? hd))
  | lk h => exact fun z => by cases z
  | sc h => exact fun z => by cases z
  | o h => exact fun z => by cases z
  | ob val h1 h2 h3 ih => exact fun z => by cases z
  | dc val h1 h2 h3 ih => exact fun z => by cases z
  | gh h1 h2 i1 i2 => exact fun z => by cases z
theorem set_self {σ : L2.St} {i : Nat} (h : σ[i]? = some (some v)) : σ.set i (some v) = σ := by
  refine List.ext_getElem? fun k => ?_
  rw [List.getElem?_set]
  by_cases hk : i = k
  · subst hk
    have hlt := (List.getElem?_eq_some_iff.mp h).1
    rw [if_pos rfl, if_pos hlt, h]
  · rw [if_neg hk]
theorem viewB_in {σ : L2.St} {i : Nat} {p : Addr} (o : Okk K G (upd F0 p (.dK kvs)) σ ss) (hi : ss[i]? = some (some d')) (h0 : F0 p = none) (gF0 : Good F0) (hs : ∀ G v, G p = none → Rep K G v d' → Rep K (upd G p (.dK kvs)) v d1) :
    G p = none ∧ Gr G (upd G p (.dK kvs)) F0 ∧ Okk K (upd G p (.dK kvs)) F0 σ (ss.set i (some d1)) := by
  have hG : G p = none := (o.dj p).resolve_right fun z => by rw [upd_same] at z; cases z
  have g : Gr G (upd G p (.dK kvs)) F0 := .ice o.dj o.gG gF0 h0
  obtain ⟨v, h1, h2⟩ := o.sg.2 i _ hi
  have z := (o.sg.same g.sm).set (j := i) (v := v) (d := d1) (hs G v hG h2)
  rw [set_self h1] at z
  exact ⟨hG, g, z, g.dj, g.gG, g.gF⟩
theorem viewB_out {G' F' : Hp} {p : Addr} (hG : G p = none) (g : Gr G (upd G p (.dK kvs)) F0) (g' : Gr (upd G p (.dK kvs)) G' F') :
    ∃ G2, joi G' F' = joi G2 (upd F' p (.dK kvs)) ∧ Gr G G2 (upd F' p (.dK kvs)) ∧ ∀ a o, G' a = some o → (∀ kvs, o ≠ .dK kvs) → G2 a = some o := by
  have hb : G' p = some (.dK kvs) := g'.sm _ _ upd_same
  have hF : F' p = none := (g'.dj p).resolve_left fun z => by rw [hb] at z; cases z
  have cell : ∀ b, b ≠ p → (upd nilH p (.dK kvs)) b = none := fun b h => by rw [upd_ne h]; rfl
  have sB : Same (upd nilH p (.dK kvs)) G' := fun b o h => by
    by_cases e : b = p
    · subst e
      rw [upd_same] at h
      rw [hb, h]
    · rw [cell b e] at h; cases h
  have gB : Good (upd nilH p (.dK kvs)) := good_nil.new rfl rfl
  have hn : dif G' (upd nilH p (.dK kvs)) p = none := dif_l upd_same
  have ho : ∀ b, b ≠ p → dif G' (upd nilH p (.dK kvs)) b = G' b := fun b h => dif_r (cell b h)
  refine ⟨dif G' (upd nilH p (.dK kvs)), ?_, ⟨fun b o h => ?_, fun b => ?_, g'.gG.dif gB sB, g'.gF.new hF rfl⟩, fun b o h1 h2 => ?_⟩
  · rw [← joi_put hn]
    funext b
    by_cases e : b = p
    · subst e
      rw [upd_same, joi_l hb]
    · rw [upd_ne e]
      cases z : G' b with
      | none => rw [joi_r z, joi_r (by rw [ho b e, z])]
      | some o => rw [joi_l z, joi_l (by rw [ho b e, z])]
  · have e : b ≠ p := fun z => by rw [z, hG] at h; cases h
    rw [ho b e]
    exact g'.sm _ _ (g.sm _ _ h)
  · by_cases e : b = p
    · subst e; exact .inl hn
    · rw [ho b e, upd_ne e]; exact g'.dj b
  · have e : b ≠ p := fun z => by rw [z, hb] at h1; cases h1; exact h2 _ rfl
    rw [ho b e]; exact h1
/-- the dict seen as data -/
theorem EvF.viewB {i : Nat} {p : Addr} (hi : ss[i]? = some (some d')) (hF : F = upd F0 p (.dK kvs)) (h0 : F0 p = none) (gF0 : Good F0) (hs : ∀ G v, G p = none → Rep K G v d' → Rep K (upd G p (.dK kvs)) v d1)
    (h : EvF K te (ss.set i (some d1)) F0 fun d F' => ND d ∧ P d (upd F' p (.dK kvs))) : EvF K te ss F P := fun σ G o Q go => by
  subst hF
  obtain ⟨hG, g, o2⟩ := viewB_in o hi h0 gF0 hs
  rw [joi_ice hG]
  refine h σ _ o2 Q fun v d G' F' g' r ⟨nd, q⟩ => ?_
  obtain ⟨G2, e, g2, hl⟩ := viewB_out hG g g'
  rw [e]
  exact go v d G2 _ g2 (r.less hl nd) q
theorem EvT.viewB {i : Nat} {p : Addr} (hi : ss[i]? = some (some d')) (hF : F = upd F0 p (.dK kvs)) (h0 : F0 p = none) (gF0 : Good F0) (hs : ∀ G v, G p = none → Rep K G v d' → Rep K (upd G p (.dK kvs)) v d1)
    (h : EvT K tt (ss.set i (some d1)) F0 fun c F' => PB c (upd F' p (.dK kvs))) : EvT K tt ss F PB := fun σ G o Q go => by
  subst hF
  obtain ⟨hG, g, o2⟩ := viewB_in o hi h0 gF0 hs
  rw [joi_ice hG]
  refine h σ _ o2 Q fun c G' F' g' q => ?_
  obtain ⟨G2, e, g2, hl⟩ := viewB_out hG g g'
  rw [e]
  exact go c G2 _ g2 q
/-! ### ghost data -/
theorem Rep.gh_inv (h : Rep K G v (.gh d w e)) : Rep K G v d ∧ Rep K G w e := by cases h with | gh h1 h2 => exact ⟨h1, h2⟩
theorem EvF.addG {j : Nat} (hj : ss[j]? = some (some (.gh d' w e))) (h : EvF K te ss F fun d F' => P (.gh d w e) F') : EvF K te ss F P := fun σ G o Q go => by
  obtain ⟨v, _, h2⟩ := o.sg.2 j _ hj
  exact h σ G o Q fun v d G' F' g r q => go v _ G' F' g (.gh r (h2.gh_inv.2.same g.sm)) q
theorem EvD.unG (h : EvD K te ss (.gh d w e)) : EvD K te ss d := .mk fun σ G F o Q q => h.at o fun v G' g r => q v G' g r.gh_inv.1
theorem sg_regh {σ : L2.St} {j : Nat} {p : Addr} {w' : V} {e' : DV} (s : Sg K G σ ss) (hj : ss[j]? = some (some (.gh (.m p) w e))) (r : Rep K G w' e') : Sg K G σ (ss.set j (some (.gh (.m p) w' e'))) := by
  obtain ⟨v, h1, h2⟩ := s.2 j _ hj
  have z := s.set (j := j) (v := v) (d := .gh (.m p) w' e') (.gh h2.gh_inv.1 r)
  rwa [set_self h1] at z
theorem RnF.asgG {i j : Nat} {p : Addr} {w0 : V} {e0 : DV} (hij : i ≠ j) (hj : ss[j]? = some (some (.gh (.m p) w0 e0))) (h : EvF K te ss F fun d F' => ∃ d0 w e, d = .gh d0 w e ∧ N ((ss.set i (some d0)).set j (some (.gh (.m p) w e))) F') : RnF K (tAsg te (gName i)) ss F N R := fun σ G o D nx rt =>
  h σ G o _ fun v d G' F' g r ⟨d0, w, e, ed, hn⟩ => by
    subst ed
    exact nx _ _ G' F' g (sg_regh ((o.sg.same g.sm).set r.gh_inv.1) (by rw [List.getElem?_set, if_neg hij]; exact hj) r.gh_inv.2) hn
theorem RnF.dropG {j : Nat} {p : Addr} {w0 : V} {e0 : DV} (hj : ss[j]? = some (some (.gh (.m p) w0 e0))) (h : EvF K te ss F fun d F' => ∃ d0 w e, d = .gh d0 w e ∧ N (ss.set j (some (.gh (.m p) w e))) F') : RnF K (tDrop te) ss F N R := fun σ G o D nx rt =>
  h σ G o _ fun v d G' F' g r ⟨d0, w, e, ed, hn⟩ => by
    subst ed
    exact nx _ _ G' F' g (sg_regh (o.sg.same g.sm) hj r.gh_inv.2) hn
/-- box[f] = e -/
theorem RnF.dputS {p : Addr} {f : Str} (he : EvF K tv ss F fun d F1 => flatM d = true ∧ ∃ kvs, F1 p = some (.dK kvs) ∧ kvs.length ≤ 100 ∧ N ss (upd F1 p (.dK (putK kvs (.inr f) (vl d))))) (ha : EvD K td ss (.m p)) : RnF K (sDPut td (tC (.str f)) tv) ss F N R := fun σ G o D nx rt =>
  he σ G o _ fun y d G1 F1 g1 ry ⟨hv, kvs, hF, hl, hn⟩ => by
    have ey := rep_vl ry hv
    subst ey
    refine ha.at (o.gr g1) fun x G2 g2 rx => ?_
    obtain rfl := rx.m_inv
    have hG : G2 p = none := (g2.dj p).resolve_right fun z => by rw [hF] at z; cases z
    refine ⟨p, _, rfl, DPut.k (k := .inr f) (by rw [joi_r hG]; exact hF) (by rw [sizeLine_eq]; omega), ?_⟩
    rw [joi_put hG]
    exact nx σ ss G2 _ ((g1.trans g2).trans (.put g2.dj g2.gG g2.gF hF)) (o.gr (g1.trans g2)).sg hn
theorem RnF.dputG {j : Nat} {p : Addr} {f : Str} {w0 : V} {e0 : DV} (hj : ss[j]? = some (some (.gh (.m p) w0 e0))) (he : EvF K tv ss F fun d F1 => ∃ kvs, F1 p = some (.dK kvs) ∧ kvs.length ≤ 100 ∧ ∀ v, N (ss.set j (some (.gh (.m p) v d))) (upd F1 p (.dK (putK kvs (.inr f) v)))) (ha : EvD K td ss (.m p)) : RnF K (sDPut td (tC (.str f)) tv) ss F N R := fun σ G o D nx rt =>
  he σ G o _ fun y d G1 F1 g1 ry ⟨kvs, hF, hl, hn⟩ => by
    refine ha.at (o.gr g1) fun x G2 g2 rx => ?_
    obtain rfl := rx.m_inv
    have hG : G2 p = none := (g2.dj p).resolve_right fun z => by rw [hF] at z; cases z
    refine ⟨p, _, rfl, DPut.k (k := .inr f) (by rw [joi_r hG]; exact hF) (by rw [sizeLine_eq]; omega), ?_⟩
    rw [joi_put hG]
    exact nx σ _ G2 _ ((g1.trans g2).trans (.put g2.dj g2.gG g2.gF hF)) (sg_regh (o.gr (g1.trans g2)).sg hj (ry.same g2.sm)) (hn y)
/-! ### taking apart -/
theorem RnF.unl2 {i j : Nat} (h : EvF K te ss F fun d F' => ∃ d1 d2, d = .l [d1, d2] ∧ N ((ss.set i (some d1)).set j (some d2)) F') : RnF K (tAsg te (gUnl K 2 (gCons (gName i) (gCons (gName j) gNil)))) ss F N R := fun σ G o D nx rt =>
  h σ G o _ fun v d G' F' g r ⟨d1, d2, e, hn⟩ => by
    subst e
    obtain ⟨a, vs, rfl, ha, hr⟩ := r.l_inv
    obtain ⟨x, y, rfl, rx, ry⟩ := hr.two
    refine ⟨a, _, rfl, .of (joi_l ha), rfl, x, _, rfl, y, _, rfl, rfl, ?_⟩
    exact nx _ _ G' F' g (((o.sg.same g.sm).set rx).set ry) hn
theorem RnF.tup3 {i j k : Nat} (h : EvF K te ss F fun d F' => ∃ d1 d2 d3, d = .t [d1, d2, d3] ∧ N (((ss.set i (some d1)).set j (some d2)).set k (some d3)) F') : RnF K (tAsg te (gTup K 3 (gCons (gName i) (gCons (gName j) (gCons (gName k) gNil))))) ss F N R := fun σ G o D nx rt =>
  h σ G o _ fun v d G' F' g r ⟨d1, d2, d3, e, hn⟩ => by
    subst e
    obtain ⟨a, vs, rfl, ha, hr⟩ := r.t_inv
    obtain ⟨x, ws, rfl, rx, hr2⟩ := hr.uncons
    obtain ⟨y, z, rfl, ry, rz⟩ := hr2.two
    refine ⟨a, _, rfl, sqt_same same_joi ha, rfl, x, _, rfl, y, _, rfl, z, _, rfl, rfl, ?_⟩
    exact nx _ _ G' F' g ((((o.sg.same g.sm).set rx).set ry).set rz) hn
/-! ### displays of what changes F -/
theorem EvF.lstA (h : EvA K tas ss F fun ds F' => ds.length ≤ sizeLine ∧ P (.l ds) F') : EvF K (tLst tas) ss F P := fun σ G o Q go => h σ G o _ fun vs ds G1 F1 g1 rs ⟨hz, q⟩ => ⟨by rw [rs.1]; exact hz, fun p hp => by
  have g2 : Gr G1 (upd G1 p (.lst vs)) F1 := .new g1.dj g1.gG g1.gF hp
  rw [joi_new]
  exact go _ _ _ _ (g1.trans g2) (.l upd_same (rs.same g2.sm).1 (rs.same g2.sm).2) q⟩
theorem EvF.tupA (h : EvA K tas ss F fun ds F' => ds.length ≤ sizeLine ∧ P (.t ds) F') : EvF K (tTup tas) ss F P := fun σ G o Q go => h σ G o _ fun vs ds G1 F1 g1 rs ⟨hz, q⟩ => ⟨by rw [rs.1]; exact hz, fun p hp => by
  have g2 : Gr G1 (upd G1 p (.tup vs)) F1 := .new g1.dj g1.gG g1.gF hp
  rw [joi_new]
  exact go _ _ _ _ (g1.trans g2) (.t (.inl (.of upd_same)) (rs.same g2.sm).1 (rs.same g2.sm).2) q⟩
/-- {k: v, ..}: four names, the third's value data -/
theorem EvF.box4 {k1 k2 k3 k4 : Str} {t1 t2 t3 t4 : TE} {a1 a2 a4 : DV} (h1 : EvD K t1 ss a1) (f1 : flatM a1 = true) (h2 : EvD K t2 ss a2) (f2 : flatM a2 = true) (h3 : EvD K t3 ss e) (h4 : EvD K t4 ss a4) (f4 : flatM a4 = true)
    (hm : ∀ v, mergeK [] [(.inr k1, vl a1), (.inr k2, vl a2), (.inr k3, v), (.inr k4, vl a4)] = [(.inr k1, vl a1), (.inr k2, vl a2), (.inr k3, v), (.inr k4, vl a4)])
    (q : ∀ p v, F p = none → P (.gh (.m p) v e) (upd F p (.dK [(.inr k1, vl a1), (.inr k2, vl a2), (.inr k3, v), (.inr k4, vl a4)]))) : EvF K (tDisp [(tC (.str k1), t1), (tC (.str k2), t2), (tC (.str k3), t3), (tC (.str k4), t4)]) ss F P := fun σ G o Q go => fun p hp => by
  obtain ⟨hG, hF⟩ := joi_none hp
  have g0 : Gr G G (upd F p (.dK [])) := .newF o.dj o.gG o.gF hp
  rw [joi_put hG]
  refine h1.at (o.gr g0) fun y1 G1 g1 r1 => ?_
  refine h2.at (o.gr (g0.trans g1)) fun y2 G2 g2 r2 => ?_
  refine h3.at (o.gr ((g0.trans g1).trans g2)) fun y3 G3 g3 r3 => ?_
  refine h4.at (o.gr (((g0.trans g1).trans g2).trans g3)) fun y4 G4 g4 r4 => ?_
  have hG4 : G4 p = none := (g4.dj p).resolve_right fun z => by rw [upd_same] at z; cases z
  refine ⟨by rw [joi_r hG4, upd_same], [(.inr k1, y1), (.inr k2, y2), (.inr k3, y3), (.inr k4, y4)], rfl, by simp, ?_⟩
  rw [rep_vl r1 f1, rep_vl r2 f2, rep_vl r4 f4, hm, joi_put hG4, upd_upd]
  have gg := ((((g0.trans g1).trans g2).trans g3).trans g4)
  refine go _ _ G4 _ (gg.trans ?_) (.gh (.m p) (r3.same g4.sm)) (q p y3 hF)
  have z : Gr G4 G4 (upd (upd F p (.dK [])) p (.dK [(.inr k1, vl a1), (.inr k2, vl a2), (.inr k3, y3), (.inr k4, vl a4)])) := .put gg.dj gg.gG gg.gF upd_same
  rwa [upd_upd] at z
end
section
variable {P : Program} {w : World} {K : PySem.W.Frag} {mg : Str → Option Value} {base : Heap} {k : Nat} {f : Addr} {x qual : Str} {params : Arguments} {body : List Stmt} {scope : Scope} {fd : FuncData} {N ps : List Str} {Φ Ψ : Ph}
/-- a def of None whose first argument carries data -/
theorem fnDG_of {CX : CXT} (F : FunD K x qual params body scope [] [] f fd) (S : FnScope N ps scope) (hb : Binds K fd ps []) (len : ∀ ds F P, Φ ds F P → ds.length = ps.length)
    (hbody : ∀ (cdv : Value) (A : Around) (outer : List Env) (s : Shared) (H : Hp) (E : XK), Room k (A.deeper (envOfC qual scope s.heap.objs.size f cdv)) →
      ∃ t, PSs (cxOf CX P w K mg base N qual scope f cdv A outer s H E) body t ∧ ∀ ds F P, Φ ds F P → Good F → RnF K t (stD N ds) F (fun ss' F' => ∃ c w e, ss'[0]? = some (some (.gh c w e)) ∧ P (.gh .n w e) F') P) : FnR P w K mg base CX (k + 1) f (PD K Φ) := by
  refine (FnOk.raw (FunD.ok F S (sp := PD K Φ) (fun vs H Q E h => ?_) fun cdv A outer s H vs Q E hr h => ?_) hb .nil).imp fun vs H Q E h => by rw [List.append_nil]; exact h
  · obtain ⟨G, F, ds, P, _, _, _, _, r, hΦ, _⟩ := h
    rw [r.1]
    exact len ds F P hΦ
  · obtain ⟨G, F, ds, P, eH, dj, gG, gF, r, hΦ, go⟩ := h
    obtain ⟨t, ht, hq⟩ := hbody cdv A outer s H E hr
    refine ⟨t, ht, ?_⟩
    subst eH
    refine hq ds F P hΦ gF _ G ⟨sg_start r, dj, gG, gF⟩ _ (fun σ' ss' G' F' g s ⟨c, w, e, h0, p⟩ => ?_) go
    obtain ⟨v, _, rv⟩ := s.2 0 _ h0
    exact go .non _ G' F' g (.gh .n rv.gh_inv.2) p
end
/-! ### the law's box -/
abbrev boxO (k r : Int) (v : V) (j : Int) : HO := .dK [(.inr "level", .int k), (.inr "room", .int r), (.inr "past", v), (.inr "spot", .int j)]
abbrev boxD (k r : Int) (pd : DV) (j : Int) : DV := .dc [("level", .i k), ("room", .i r), ("past", pd), ("spot", .i j)]
theorem box_view {K : PySem.W.Frag} {G : Hp} {x v : V} {b : Addr} {k r j : Int} {pd : DV} (hG : G b = none) (h : Rep K G x (.gh (.m b) v pd)) : Rep K (upd G b (boxO k r v j)) x (boxD k r pd j) := by
  obtain ⟨h1, h2⟩ := h.gh_inv
  obtain rfl := h1.m_inv
  have sm : Same G (upd G b (boxO k r v j)) := fun a o e => by
    rw [upd_ne fun z => by rw [z, hG] at e; cases e]
    exact e
  have key : ∀ f d, ([("level", .i k), ("room", .i r), ("past", pd), ("spot", .i j)] : List (Str × DV)).lookup f = some d → (f = "level" ∧ d = .i k) ∨ (f = "room" ∧ d = .i r) ∨ (f = "past" ∧ d = pd) ∨ (f = "spot" ∧ d = .i j) := fun f d e => by
    simp only [List.lookup] at e
    split at e
    · rename_i z; cases e; exact .inl ⟨by simpa using z, rfl⟩
    split at e
    · rename_i z; cases e; exact .inr (.inl ⟨by simpa using z, rfl⟩)
    split at e
    · rename_i z; cases e; exact .inr (.inr (.inl ⟨by simpa using z, rfl⟩))
    split at e
    · rename_i z; cases e; exact .inr (.inr (.inr ⟨by simpa using z, rfl⟩))
    · cases e
  refine .dc (fun f => (valV [(.inr "level", .int k), (.inr "room", .int r), (.inr "past", v), (.inr "spot", .int j)] (.inr f : Key)).getD .non) upd_same (fun f d e => ?_) fun f d e => ?_
  · rcases key f d e with ⟨rfl, _⟩ | ⟨rfl, _⟩ | ⟨rfl, _⟩ | ⟨rfl, _⟩ <;> rfl
  · rcases key f d e with ⟨rfl, rfl⟩ | ⟨rfl, rfl⟩ | ⟨rfl, rfl⟩ | ⟨rfl, rfl⟩
    · exact .i k
    · exact .i r
    · exact h2.same sm
    · exact .i j
end Lay
end
section
set_option Elab.async false
set_option linter.all false
set_option autoImplicit false
set_option maxRecDepth 100000
set_option maxHeartbeats 4000000
namespace Lay
open PySem PySem.Spec PyProof.Rows L2


def ph_plan : Ph := fun ds F P => ∃ g xs n, ds = [.m g, .sc xs, .i n] ∧ 0 ≤ n ∧ n ≤ 60 ∧ Bag g F ∧ ∀ (row : List Int) a b c, row.length ≤ 9 → 0 ≤ a → 0 ≤ c → P (.l (row.map DV.i)) (upd F g (bagO a b c))
def ph_operation : Ph := fun ds F P => ∃ g xs s u k, ds = [.m g, .sc xs, s.D, .i u, .i k] ∧ Wf s ∧ 0 ≤ u ∧ u < 60 ∧ 0 ≤ k ∧ k ≤ 3 ∧ Bag g F ∧ ∀ (op : Int) a b c, 0 ≤ a → 0 ≤ c → P (.i op) (upd F g (bagO a b c))
def nearM (n : Int) : Int := if 6 < n then 6 else n
def nearL (n u : Int) : List Int := tab (nearM n) fun k => 1 + (u + k) % n
theorem near_mem {n u x : Int} (h0 : 1 ≤ n) (h : x ∈ nearL n u) : 1 ≤ x ∧ x ≤ n := by
  obtain ⟨k, k0, k1, rfl⟩ := tab_mem h
  have p1 := Int.emod_nonneg (u + k) (show n ≠ 0 by omega)
  have p2 := Int.emod_lt_of_pos (u + k) (show 0 < n by omega)
  omega
theorem near_len {n u : Int} (h0 : 1 ≤ n) : 1 ≤ (nearL n u).length ∧ (nearL n u).length ≤ 6 := by
  unfold nearL nearM
  rw [tab_length]
  split <;> omega
def opL (s : St) (x : Int) : Int := x * (2 * bI (s.O x) - 1)
theorem leg_opL {s : St} {x : Int} (h0 : 1 ≤ x) (h1 : x ≤ s.n) : Leg s (opL s x) := by
  have e : opL s x = opOn s x := by
    unfold opL opOn bI
    split <;> omega
  have e2 : iabs (opL s x) = x := by
    rw [e]
    unfold opOn iabs
    split <;> split <;> omega
  exact ⟨by rw [e2]; exact h0, by rw [e2]; exact h1, by rw [e2]; exact e⟩
section
variable {w : World} {K : PySem.W.Frag} {mg : Str → Option Value} {base : Heap}

theorem ok_ulaw_plan (T : TX K mg) : FnR PW w K mg base CX0 2 (gA "_law_plan" K) (PD K ph_plan) := by
  obtain ⟨fd, F⟩ := f_ulaw_plan T
  refine fnD_of F n_ulaw_plan (F.bindsN fun _ _ _ _ _ _ us hl => match us, hl with | [_, _, _], _ => rfl) (fun ds F P ⟨_, _, _, e, _⟩ => by rw [e]; rfl) fun cdv A outer s H E hr => ⟨_, PSs.nox
    (pss_cons (ps_if (PW.pt (pw_or (pt_cmpR op_lt (pv 2) pe_int (nomark _)) (pw_or1 (pt_cmpR op_eq (pe_callR (ok_ulaw_draw T) (hr.mono (by decide)) rfl (g_ulaw_draw T) (k_ulaw_draw T) at0 (pa_cons (pv 0) (pa_cons (pv 1) (pa_cons pe_int pa_nil)))) pe_int (nomark _))))) (pss_one (ps_ret (pe_lst pa_nil))) pss_nil)
      (pss_cons (ps_set (i := 3) n_ulaw_plan.nd rfl (by first | exact .inl rfl | exact .inr rfl) (pe_callR (ok_ulaw_draw T) (hr.mono (by decide)) rfl (g_ulaw_draw T) (k_ulaw_draw T) at0 (pa_cons (pv 0) (pa_cons (pv 1) (pa_cons (pe_op op_sub (pv 2) pe_int) pa_nil)))))
      (pss_cons (ps_set (i := 4) n_ulaw_plan.nd rfl (by first | exact .inl rfl | exact .inr rfl) (pe_slice sl_list (pe_lst (pa_cons (pe_op op_sub (pe_un un_neg (pv 3)) pe_int) (pa_cons (pe_op op_sub (pe_un un_neg (pv 3)) pe_int) (pa_cons (pe_op op_add (pv 3) pe_int) (pa_cons (pe_op op_sub (pe_un un_neg (pv 3)) pe_int) (pa_cons (pe_op op_sub (pe_un un_neg (pv 3)) pe_int) pa_nil)))))) po_none (po_some (pe_op op_add pe_int (pe_callR (ok_ulaw_draw T) (hr.mono (by decide)) rfl (g_ulaw_draw T) (k_ulaw_draw T) at0 (pa_cons (pv 0) (pa_cons (pv 1) (pa_cons pe_int pa_nil))))))))
      (pss_cons (ps_if (pt_cmpR op_eq (pe_callR (ok_ulaw_draw T) (hr.mono (by decide)) rfl (g_ulaw_draw T) (k_ulaw_draw T) at0 (pa_cons (pv 0) (pa_cons (pv 1) (pa_cons pe_int pa_nil)))) pe_int (nomark _)) (pss_one (ps_ret (pv 4))) pss_nil)
      (pss_one (ps_ret (pe_lc (own := [("_law_one", 5)]) (g := gName 5) rfl n_ulaw_plan.nd (pi_list (pv 4)) (blkOk_by (own := [("_law_one", 5)]) (N := ["_law_bag", "_law_script", "_law_size_here", "_law_shift", "_law_row_here", "_law_one"]) (sc := defScope st_ulaw_plan) (by decide +kernel)) (fun _ _ _ _ _ => pg_name (i := 5) n_ulaw_plan.nd rfl (Or.inl rfl)) (fun _ _ _ _ _ => pts_nil) (fun _ _ _ _ _ => (pe_op op_sub (pe_op op_mul (pe_op op_add (pv 2) pe_int) (pe_op op_sub pe_int (pe_op op_mul pe_int (pe_callTy call_int1 (by rfl) (b_int T) boot_int' (pa_cons (pe_cmpR op_lt (pv 5) pe_int (nomark _)) pa_nil))))) (pv 5)))))))))), fun ds F P h gF => ?_⟩
  obtain ⟨g, xs, n, rfl, n0, n1, hB, hP⟩ := h
  obtain ⟨a, b, c, a0, c0, eF⟩ := hB.self
  refine .seq (.ifS (.or (EvB.evt (.test (.lt (.var rfl) .int)) ?_)))
  have stop : ∀ a b c, 0 ≤ a → 0 ≤ c → P (.l []) (upd F g (bagO a b c)) := fun a b c a0 c0 => hP [] a b c (by decide) a0 c0
  split
  · rw [if_pos rfl]
    refine .ret (.evf (.lst .nil (by rw [sizeLine_eq]; simp)) ?_)
    rw [eF]
    exact stop _ _ _ a0 c0
  rename_i hn
  have hn : 4 ≤ n := by
    have := of_decide_eq_false (Bool.eq_false_iff.mpr hn)
    omega
  refine .test (.eqL (.call (.eva (.cons (.var rfl) (.cons (.var rfl) (.cons .int .nil))) ⟨g, xs, 3, rfl, hB, (by omega), (by omega), fun r a b c r0 r1 a0 c0 => ⟨_, rfl, _, rfl, ?_⟩⟩)) .int)
  split
  · exact .ret (.evf (.lst .nil (by rw [sizeLine_eq]; simp)) (stop _ _ _ a0 c0))
  refine .nil ?_
  refine .seq (.asg (.call (.eva (.cons (.var rfl) (.cons (.var rfl) (.cons (.sub (.var rfl) .int) .nil))) ⟨g, xs, n - 3, rfl, (.put a0 c0), (by omega), (by omega), fun t a b c t0 t1 a0 c0 => ?_⟩)))
  rw [upd_upd]
  refine .seq (.asg (.cutF (ds := ([-t - 2, -t - 3, t + 2, -t - 1, -t - 4] : List Int).map DV.i) (.lst (.cons (.sub (.neg (.var rfl)) .int) (.cons (.sub (.neg (.var rfl)) .int) (.cons (.add (.var rfl) .int) (.cons (.sub (.neg (.var rfl)) .int) (.cons (.sub (.neg (.var rfl)) .int) .nil))))) (by rw [sizeLine_eq]; simp)) (.addR .int (.call (.eva (.cons (.var rfl) (.cons (.var rfl) (.cons .int .nil))) ⟨g, xs, 4, rfl, (.put a0 c0), (by omega), (by omega), fun r a b c r0 r1 a0 c0 => ⟨_, rfl, _, rfl, ?_⟩⟩)))))
  rw [upd_upd, cutD_ints]
  generalize hrow : List.take _ ([-t - 2, -t - 3, t + 2, -t - 1, -t - 4] : List Int) = row
  have hl : row.length ≤ 5 := by
    rw [← hrow, List.length_take]
    exact Nat.min_le_right _ _
  refine .seq (.ifS (.test (.eqL (.call (.eva (.cons (.var rfl) (.cons (.var rfl) (.cons .int .nil))) ⟨g, xs, 2, rfl, (.put a0 c0), (by omega), (by omega), fun r a b c r0 r1 a0 c0 => ⟨_, rfl, _, rfl, ?_⟩⟩)) .int)))
  rw [upd_upd]
  split
  · exact .ret (.evf (.var rfl) (hP row _ _ _ (by omega) a0 c0))
  refine .nil (.ret (.evf (.lcIY (xs := row) (f := fun x => (n + 1) * (1 - 2 * bI (decide (x < 0))) - x) (.var rfl) (fun x hx => .sub (.mul (.add (.var rfl) .int) (.sub .int (.mul .int (.intB (.lt (.var rfl) .int)) (.inl ⟨by decide, by decide⟩))) (.inl ⟨(by omega), (by omega)⟩)) (.var rfl)) (by omega)) ?_))
  exact hP _ _ _ _ (by rw [List.length_map]; omega) a0 c0

theorem ok_ulaw_operation (T : TX K mg) : FnR PW w K mg base CX0 4 (gA "_law_operation" K) (PD K ph_operation) := by
  obtain ⟨fd, F⟩ := f_ulaw_operation T
  refine fnD_of F n_ulaw_operation (F.bindsN fun _ _ _ _ _ _ us hl => match us, hl with | [_, _, _, _, _], _ => rfl) (fun ds F P ⟨_, _, _, _, _, e, _⟩ => by rw [e]; rfl) fun cdv A outer s H E hr => ⟨_, PSs.nox
    (pss_cons (ps_set (i := 5) n_ulaw_operation.nd rfl (by first | exact .inl rfl | exact .inr rfl) (pe_op op_sub (pe_callB call_len_seq (by rfl) (b_len T) boot_len' (pa_cons (pe_ix ix_list (pv 2) pe_int (fun _ _ => rfl)) pa_nil)) pe_int))
      (pss_cons (ps_set (i := 6) n_ulaw_operation.nd rfl (by first | exact .inl rfl | exact .inr rfl) (pe_callR (ok_ulaw_draw T) (hr.mono (by decide)) rfl (g_ulaw_draw T) (k_ulaw_draw T) at0 (pa_cons (pv 0) (pa_cons (pv 1) (pa_cons pe_int pa_nil)))))
      (pss_cons (ps_if (PW.pt (pw_or (pt_cmpR op_eq (pv 5) pe_int (nomark _)) (pw_or1 (pt_cmpR op_eq (pv 6) pe_int (nomark _))))) (pss_cons (ps_set (i := 7) n_ulaw_operation.nd rfl (by first | exact .inl rfl | exact .inr rfl) (pe_op op_add pe_int (pv 3)))
      (pss_one (ps_ret (pe_ix ix_list (pe_lst (pa_cons pe_int (pa_cons (pe_op op_add (pv 5) pe_int) (pa_cons (pe_op op_sub (pe_un un_neg pe_int) (pv 5)) (pa_cons (pv 7) (pa_cons (pe_un un_neg (pv 7)) pa_nil)))))) (pe_callR (ok_ulaw_draw T) (hr.mono (by decide)) rfl (g_ulaw_draw T) (k_ulaw_draw T) at0 (pa_cons (pv 0) (pa_cons (pv 1) (pa_cons pe_int pa_nil)))) (fun _ _ => rfl))))) pss_nil)
      (pss_cons (ps_setLc (i := 8) (own := [("_law_step", 11)]) (g := gName 11) rfl n_ulaw_operation.nd rfl rfl (sw_true rfl rfl rfl (by decide +kernel)) (pi_range1 (by rfl) (b_range T) (pa_cons (pe_callB (call_min2 rfl) (by rfl) (b_min T) boot_min' (pa_cons (pv 5) (pa_cons pe_int pa_nil))) pa_nil)) (blkOk_by (own := [("_law_step", 11)]) (N := ["_law_bag", "_law_script", "_law_state", "_law_base", "_law_level", "_law_size_here", "_law_choice", "_law_far", "_law_near", "_law_node", "_law_row_here", "_law_step", "_law_one"]) (sc := defScope st_ulaw_operation) (by decide +kernel)) (fun _ _ _ _ _ => pg_name (i := 11) n_ulaw_operation.nd rfl (Or.inl rfl)) (fun _ _ _ _ _ => pts_nil) (fun _ _ _ _ _ => (pe_op op_add pe_int (pe_op op_mod (pe_callTy call_int1 (by rfl) (b_int T) boot_int' (pa_cons (pe_op op_add (pv 3) (pv 11)) pa_nil)) (pv 5)))))
      (pss_cons (ps_set (i := 9) n_ulaw_operation.nd rfl (by first | exact .inl rfl | exact .inr rfl) (pe_ix ix_list (pv 8) (pe_callR (ok_ulaw_draw T) (hr.mono (by decide)) rfl (g_ulaw_draw T) (k_ulaw_draw T) at0 (pa_cons (pv 0) (pa_cons (pv 1) (pa_cons (pe_callB call_len_seq (by rfl) (b_len T) boot_len' (pa_cons (pv 8) pa_nil)) pa_nil)))) (fun _ _ => rfl)))
      (pss_cons (ps_if (pt_cmpR op_eq (pv 6) pe_int (nomark _)) (pss_one (ps_set (i := 9) n_ulaw_operation.nd rfl (by first | exact .inl rfl | exact .inr rfl) (pe_op op_add pe_int (pe_callR (ok_ulaw_draw T) (hr.mono (by decide)) rfl (g_ulaw_draw T) (k_ulaw_draw T) at0 (pa_cons (pv 0) (pa_cons (pv 1) (pa_cons (pv 5) pa_nil))))))) pss_nil)
      (pss_cons (ps_if (pt_cmpR op_eq (pv 6) pe_int (nomark _)) (pss_one (ps_ret (pe_op op_mul (pv 9) (pe_op op_sub pe_int (pe_op op_mul pe_int (pe_callTy call_int1 (by rfl) (b_int T) boot_int' (pa_cons (pe_ix ix_list (pe_ix ix_list (pv 2) pe_int (fun _ _ => rfl)) (pv 9) (fun _ _ => rfl)) pa_nil))))))) pss_nil)
      (pss_cons (ps_setLc (i := 10) (own := [("_law_one", 12)]) (g := gName 12) rfl n_ulaw_operation.nd rfl rfl (sw_true rfl rfl rfl (by decide +kernel)) (pi_list (pv 8)) (blkOk_by (own := [("_law_one", 12)]) (N := ["_law_bag", "_law_script", "_law_state", "_law_base", "_law_level", "_law_size_here", "_law_choice", "_law_far", "_law_near", "_law_node", "_law_row_here", "_law_step", "_law_one"]) (sc := defScope st_ulaw_operation) (by decide +kernel)) (fun _ _ _ _ _ => pg_name (i := 12) n_ulaw_operation.nd rfl (Or.inl rfl)) (fun _ _ _ _ _ => pts_nil) (fun _ _ _ _ _ => (pe_op op_mul (pv 12) (pe_op op_sub (pe_op op_mul pe_int (pe_callTy call_int1 (by rfl) (b_int T) boot_int' (pa_cons (pe_ix (ixl K) (pe_ix (ixl K) (pv 2) pe_int (fun _ _ => rfl)) (pv 12) (fun _ _ => rfl)) pa_nil))) pe_int))))
      (pss_cons (ps_if (pt_chain op_lt op_lt pe_int (pv 6) pe_int) (pss_one (ps_setLc (i := 10) (own := [("_law_one", 12)]) (g := gName 12) rfl n_ulaw_operation.nd rfl rfl (sw_true rfl rfl rfl (by decide +kernel)) (pi_list (pv 10)) (blkOk_by (own := [("_law_one", 12)]) (N := ["_law_bag", "_law_script", "_law_state", "_law_base", "_law_level", "_law_size_here", "_law_choice", "_law_far", "_law_near", "_law_node", "_law_row_here", "_law_step", "_law_one"]) (sc := defScope st_ulaw_operation) (by decide +kernel)) (fun _ _ _ _ _ => pg_name (i := 12) n_ulaw_operation.nd rfl (Or.inl rfl)) (fun _ _ _ _ _ => pts_one (pt_cmpR (neDr K hr.units) (pe_callR (ok_ulaw_foreign T) (hr.mono (by decide)) rfl (g_ulaw_foreign T) (k_ulaw_foreign T) at0 (pa_cons (pv 2) (pa_cons (pv 12) pa_nil))) (pe_lst pa_nil) (nomark _))) (fun _ _ _ _ _ => (pv 12)))) pss_nil)
      (pss_cons (ps_if (pt_chain op_lt op_lt pe_int (pv 6) pe_int) (pss_one (ps_setLc (i := 10) (own := [("_law_one", 12)]) (g := gName 12) rfl n_ulaw_operation.nd rfl rfl (sw_true rfl rfl rfl (by decide +kernel)) (pi_list (pv 10)) (blkOk_by (own := [("_law_one", 12)]) (N := ["_law_bag", "_law_script", "_law_state", "_law_base", "_law_level", "_law_size_here", "_law_choice", "_law_far", "_law_near", "_law_node", "_law_row_here", "_law_step", "_law_one"]) (sc := defScope st_ulaw_operation) (by decide +kernel)) (fun _ _ _ _ _ => pg_name (i := 12) n_ulaw_operation.nd rfl (Or.inl rfl)) (fun _ _ _ _ _ => pts_one (pt_cmpR op_eq (pe_callR (ok_ulaw_refusing T) (hr.mono (by decide)) rfl (g_ulaw_refusing T) (k_ulaw_refusing T) at0 (pa_cons (pv 2) (pa_cons (pv 12) (pa_cons (pv 4) pa_nil)))) pe_str (nomark _))) (fun _ _ _ _ _ => (pv 12)))) pss_nil)
      (pss_cons (ps_if (PW.pt (pw_and (pt_cmpR op_gt (pv 6) pe_int (nomark _)) (pw_and1 (pt_cmpR (op_neD hr.units) (pv 10) (pe_lst pa_nil) (nomark _))))) (pss_one (ps_ret (pe_ix ix_list (pv 10) (pe_callR (ok_ulaw_draw T) (hr.mono (by decide)) rfl (g_ulaw_draw T) (k_ulaw_draw T) at0 (pa_cons (pv 0) (pa_cons (pv 1) (pa_cons (pe_callB call_len_seq (by rfl) (b_len T) boot_len' (pa_cons (pv 10) pa_nil)) pa_nil)))) (fun _ _ => rfl)))) pss_nil)
      (pss_one (ps_ret (pe_op op_mul (pv 9) (pe_op op_sub (pe_op op_mul pe_int (pe_callTy call_int1 (by rfl) (b_int T) boot_int' (pa_cons (pe_ix ix_list (pe_ix ix_list (pv 2) pe_int (fun _ _ => rfl)) (pv 9) (fun _ _ => rfl)) pa_nil))) pe_int))))))))))))))), fun ds F P h gF => ?_⟩
  obtain ⟨g, xs, s, u, k, rfl, hW, u0, u1, k0, k1, hB, hP⟩ := h
  have n0 := hW.n0
  have n1 := hW.n1
  refine .seq (.asg (.evf (.sub (.lenTab (α := Int) (.ixL (.var rfl) .int rfl) (by omega)) .int) ?_))
  rw [show s.n + 1 - 1 = s.n by omega]
  refine .seq (.asg (.call (.eva (.cons (.var rfl) (.cons (.var rfl) (.cons .int .nil))) ⟨g, xs, 16, rfl, hB, (by omega), (by omega), fun r a b c r0 r1 a0 c0 => ?_⟩)))
  generalize hch : r = ch at *
  refine .seq (.ifB (.or (.test (.eqI (.var rfl) .int)) (fun _ => .test (.eqI (.var rfl) .int))) (fun _ => ?_) (fun hn => .nil ?_))
  · refine .seq (.asg (.evf (.add .int (.var rfl)) ?_))
    refine .ret (.ixLF (ds := ([0, s.n + 1, -1 - s.n, 1000000000 + u, -(1000000000 + u)] : List Int).map DV.i) (.lst (.cons .int (.cons (.add (.var rfl) .int) (.cons (.sub (.neg .int) (.var rfl)) (.cons (.var rfl) (.cons (.neg (.var rfl)) .nil))))) (by rw [sizeLine_eq]; simp)) (.call (.eva (.cons (.var rfl) (.cons (.var rfl) (.cons .int .nil))) ⟨g, xs, 5, rfl, (.put a0 c0), (by omega), (by omega), fun r a b c r0 r1 a0 c0 => ?_⟩)))
    obtain ⟨x, _, hx⟩ := atI_ints (xs := [0, s.n + 1, -1 - s.n, 1000000000 + u, -(1000000000 + u)]) r0 r1
    rw [upd_upd]
    exact ⟨r, _, rfl, hx, hP _ _ _ _ a0 c0⟩
  have hn1 : 1 ≤ s.n := by
    simp only [Bool.or_eq_false_iff, decide_eq_false_iff_not] at hn
    omega
  have hm : nearM s.n ≤ 6 ∧ 1 ≤ nearM s.n := by unfold nearM; split <;> omega
  have nl := near_len (n := s.n) (u := u) hn1
  refine .seq (.asg (.evf (d := .l ((nearL s.n u).map DV.i)) (by
    unfold nearL
    rw [tab_map]
    exact .lcY1 (.min2 (.var rfl) .int) (fun j j0 j1 => .add .int (.mod (.intI (.add (.var rfl) (.var rfl))) (.var rfl) (by omega))) (by omega) (by omega)) ?_))
  refine .seq (.asg (.ixLF (.var rfl) (.call (.eva (.cons (.var rfl) (.cons (.var rfl) (.cons (.lenI (.var rfl)) .nil))) ⟨g, xs, _, rfl, (.put a0 c0), (by omega), (by omega), fun r a b c r0 r1 a0 c0 => ?_⟩))))
  obtain ⟨v, hv, hx⟩ := atI_ints (xs := nearL s.n u) r0 r1
  refine ⟨r, _, rfl, hx, ?_⟩
  rw [upd_upd]
  have vr := near_mem hn1 hv
  refine .seq (RnF.mono (R := P) (N := fun ss' F' => ∃ v a b c, 1 ≤ v ∧ v ≤ s.n ∧ 0 ≤ a ∧ 0 ≤ c ∧ ss' = [some (.m g), some (.sc xs), some s.D, some (.i u), some (.i k), some (.i s.n), some (.i ch), none, some (.l ((nearL s.n u).map DV.i)), some (.i v), none, none, none] ∧ F' = upd F g (bagO a b c))
    (.ifB (.test (.eqI (.var rfl) .int)) (fun _ => .asg (.addR .int (.call (.eva (.cons (.var rfl) (.cons (.var rfl) (.cons (.var rfl) .nil))) ⟨g, xs, _, rfl, (.put a0 c0), (by omega), (by omega), fun r a b c r0 r1 a0 c0 => ⟨_, rfl, _, a, b, c, ?_, ?_, a0, c0, rfl, upd_upd⟩⟩)))) (fun _ => .nil ⟨v, a, b, c, vr.1, vr.2, a0, c0, rfl, rfl⟩)) (fun ss' F1 ⟨v, a, b, c, v0, v1, a0, c0, e1, e2⟩ => ?_) (fun _ _ z => z))
  · omega
  · omega
  subst e1 e2
  have hb := fun x => bI_range (s.O x)
  refine .seq (.ifB (.test (.eqI (.var rfl) .int)) (fun _ => .ret (.evf (.mul (.var rfl) (.sub .int (.mul .int (.intB (.ixL (.ixL (.var rfl) .int rfl) (.var rfl) (atI_tab (by omega) (by omega)))) (.inl ⟨by decide, by decide⟩))) (.inl ⟨(by omega), (by omega)⟩)) (hP _ _ _ _ a0 c0))) (fun _ => .nil ?_))
  refine .seq (.asg (.evf (.lcIY (xs := nearL s.n u) (f := opL s) (.var rfl) (fun x hx => by
    have := near_mem hn1 hx
    exact .mul (.var rfl) (.sub (.mul .int (.intB (.ixL (.ixL (.var rfl) .int rfl) (.var rfl) (atI_tab (by omega) (by omega)))) (.inl ⟨by decide, by decide⟩)) .int) (.inl ⟨(by omega), (by omega)⟩)) (by omega)) ?_))
  have hrow : ∀ x ∈ (nearL s.n u).map (opL s), Leg s x := fun x hx => by
    obtain ⟨y, hy, rfl⟩ := List.mem_map.mp hx
    exact leg_opL (near_mem hn1 hy).1 (near_mem hn1 hy).2
  have hrl : ((nearL s.n u).map (opL s)).length ≤ 6 := by rw [List.length_map]; omega
  generalize (nearL s.n u).map (opL s) = row at hrow hrl ⊢
  refine .seq (RnF.mono (R := P) (N := fun ss' F' => ∃ row : List Int, (∀ x ∈ row, Leg s x) ∧ row.length ≤ 6 ∧ ss' = [some (.m g), some (.sc xs), some s.D, some (.i u), some (.i k), some (.i s.n), some (.i ch), none, some (.l ((nearL s.n u).map DV.i)), some (.i v), some (.l (row.map DV.i)), none, none] ∧ F' = upd F g (bagO a b c))
    (.ifB (.chain .int (.var rfl) (fun _ => .int)) (fun _ => .asg (.evf (.lcI (xs := row) (p := fun x => !(forL s (iabs x)).isEmpty) (f := fun x => x) (.var rfl) (fun x hx => .test (.neNil (.call (.cons (.var rfl) (.cons (.var rfl) .nil)) ⟨s, x, hW, hrow x hx, rfl, rfl⟩) (.lst .nil (by rw [sizeLine_eq]; simp)))) (fun x hx _ => (.var rfl)) (by omega)) ⟨_, fun x hx => ?_, ?_, rfl, rfl⟩)) (fun _ => .nil ⟨row, hrow, hrl, rfl, rfl⟩)) (fun ss' F1 ⟨row, hrow, hrl, e1, e2⟩ => ?_) (fun _ _ z => z))
  · rw [List.map_id'] at hx
    exact hrow x (List.mem_filter.mp hx).1
  · rw [List.length_map]
    exact Nat.le_trans (List.length_filter_le _ _) hrl
  subst e1 e2
  refine .seq (RnF.mono (R := P) (N := fun ss' F' => ∃ row : List Int, row.length ≤ 6 ∧ ss' = [some (.m g), some (.sc xs), some s.D, some (.i u), some (.i k), some (.i s.n), some (.i ch), none, some (.l ((nearL s.n u).map DV.i)), some (.i v), some (.l (row.map DV.i)), none, none] ∧ F' = upd F g (bagO a b c))
    (.ifB (.chain .int (.var rfl) (fun _ => .int)) (fun _ => .asg (.evf (.lcI (xs := row) (p := fun x => decide (refT s x k = "")) (f := fun x => x) (.var rfl) (fun x hx => .test (.eqS (.call (.cons (.var rfl) (.cons (.var rfl) (.cons (.var rfl) .nil))) ⟨s, x, k, hW, hrow x hx, k0, k1, rfl, rfl⟩) .str)) (fun x hx _ => (.var rfl)) (by omega)) ⟨_, ?_, rfl, rfl⟩)) (fun _ => .nil ⟨row, hrl, rfl, rfl⟩)) (fun ss' F1 ⟨row, hrl, e1, e2⟩ => ?_) (fun _ _ z => z))
  · rw [List.length_map]
    exact Nat.le_trans (List.length_filter_le _ _) hrl
  subst e1 e2
  refine .seq (.ifB (.and (.test (.gt (.var rfl) .int)) (fun _ => .test (.neNil (.var rfl) (.lst .nil (by rw [sizeLine_eq]; simp))))) (fun hc => .ret (.ixLF (.var rfl) (.call (.eva (.cons (.var rfl) (.cons (.var rfl) (.cons (.lenI (.var rfl)) .nil))) ⟨g, xs, _, rfl, (.put a0 c0), ?_, (by omega), fun r a b c r0 r1 a0 c0 => ?_⟩)))) (fun _ => .nil ?_))
  · simp only [Bool.and_eq_true, Bool.not_eq_true'] at hc
    cases row with
    | nil => exact absurd hc.2 (by decide)
    | cons x row => rw [List.length_cons]; omega
  · obtain ⟨x, hx, e⟩ := atI_ints (xs := row) r0 r1
    rw [upd_upd]
    exact ⟨r, _, rfl, e, hP _ _ _ _ a0 c0⟩
  exact .ret (.evf (.mul (.var rfl) (.sub (.mul .int (.intB (.ixL (.ixL (.var rfl) .int rfl) (.var rfl) (atI_tab (by omega) (by omega)))) (.inl ⟨by decide, by decide⟩)) .int) (.inl ⟨(by omega), (by omega)⟩)) (hP _ _ _ _ a0 c0))

end
end Lay
end
section
set_option Elab.async false
set_option linter.all false
set_option autoImplicit false
set_option maxRecDepth 100000
set_option maxHeartbeats 4000000
namespace Lay
open PySem PySem.Spec PyProof.Rows L2


def pairD (x : List Int × St) : DV := .l [.l (x.1.map DV.i), x.2.D]
abbrev pastD (past : List (List Int × St)) : DV := .l (past.map pairD)
def ph_row : Ph := fun ds F P => ∃ g xs k r past j u log s, ds = [.m g, .sc xs, boxD k r (pastD past) j, .i u] ∧ atI (past.map pairD) j = some (pairD (log, s)) ∧ Wf s ∧ 0 ≤ u ∧ u < 60 ∧ 0 ≤ k ∧ k ≤ 3 ∧ Bag g F ∧
  ∀ (ops : List Int) a b c, ops.length ≤ 9 → 0 ≤ a → 0 ≤ c → P (.l (ops.map DV.i)) (upd F g (bagO a b c))
/-- what deed draws -/
def DeedOk (x : Str) (ops : List Int) : Prop := (x = "undo" ∧ ops = []) ∨ (x = "redo" ∧ ops = []) ∨ (x = "do" ∧ ops.length = 1) ∨ (x = "attempt" ∧ ops.length ≤ 9)
abbrev deedD (x : Str) (ops : List Int) : DV := .t [.s x, .l (ops.map DV.i)]
def ph_deed : Ph := fun ds F P => ∃ g xs k r past j u log s, ds = [.m g, .sc xs, boxD k r (pastD past) j, .i u] ∧ atI (past.map pairD) j = some (pairD (log, s)) ∧ Wf s ∧ 0 ≤ u ∧ u < 60 ∧ 0 ≤ k ∧ k ≤ 3 ∧ Bag g F ∧
  ∀ x ops a b c, DeedOk x ops → 0 ≤ a → 0 ≤ c → P (deedD x ops) (upd F g (bagO a b c))
theorem Bag.ne {g p : Addr} {F : Hp} {o : HO} (h : Bag g F) (hp : p ≠ g) : Bag g (upd F p o) := by
  obtain ⟨a, b, c, h, a0, c0⟩ := h
  exact ⟨a, b, c, by rw [upd_ne (Ne.symm hp)]; exact h, a0, c0⟩
theorem upd_swap {F : Hp} {g p : Addr} {x y z : HO} (h : p ≠ g) : upd (upd (upd F g x) p y) g z = upd (upd F g z) p y := by
  rw [upd_comm (Ne.symm h), upd_upd, ← upd_comm h, ← upd_comm (Ne.symm h)]
section
variable {w : World} {K : PySem.W.Frag} {mg : Str → Option Value} {base : Heap}

theorem ok_ulaw_row (T : TX K mg) : FnR PW w K mg base CX0 5 (gA "_law_row" K) (PD K ph_row) := by
  obtain ⟨fd, F⟩ := f_ulaw_row T
  refine fnD_of F n_ulaw_row (F.bindsN fun _ _ _ _ _ _ us hl => match us, hl with | [_, _, _, _], _ => rfl) (fun ds F P ⟨_, _, _, _, _, _, _, _, _, e, _⟩ => by rw [e]; rfl) fun cdv A outer s H E hr => ⟨_, PSs.nox
    (pss_cons (ps_set (i := 4) n_ulaw_row.nd rfl (by first | exact .inl rfl | exact .inr rfl) (pe_ix ix_list (pe_ix ix_list (pe_dget (hu_of hr) (pv 2) pe_str (fun _ _ => rfl)) (pe_dget (hu_of hr) (pv 2) pe_str (fun _ _ => rfl)) (fun _ _ => rfl)) pe_int (fun _ _ => rfl)))
      (pss_cons (ps_set (i := 5) n_ulaw_row.nd rfl (by first | exact .inl rfl | exact .inr rfl) (pe_lst pa_nil))
      (pss_cons (ps_for PassesOwn.never rfl (pi_range1 (by rfl) (b_range T) (pa_cons (pe_callR (ok_ulaw_draw T) (hr.mono (by decide)) rfl (g_ulaw_draw T) (k_ulaw_draw T) at0 (pa_cons (pv 0) (pa_cons (pv 1) (pa_cons pe_int pa_nil)))) pa_nil)) (pg_name (i := 6) n_ulaw_row.nd rfl (by first | exact .inl rfl | exact .inr rfl)) (pss_cons (ps_set (i := 7) n_ulaw_row.nd rfl (by first | exact .inl rfl | exact .inr rfl) (pe_callR (ok_ulaw_operation T) (hr.mono (by decide)) rfl (g_ulaw_operation T) (k_ulaw_operation T) at0 (pa_cons (pv 0) (pa_cons (pv 1) (pa_cons (pv 4) (pa_cons (pv 3) (pa_cons (pe_dget (hu_of hr) (pv 2) pe_str (fun _ _ => rfl)) pa_nil)))))))
      (pss_cons (ps_expr (pe_bm PySem.F.plainAttrs_list PySem.F.slot_list_append PySem.F.type_list_append mt_append (pv 5) (pa_cons (pv 7) pa_nil)))
      (pss_cons (ps_set (i := 8) n_ulaw_row.nd rfl (by first | exact .inl rfl | exact .inr rfl) (pe_callB call_abs (by rfl) (b_abs T) boot_abs' (pa_cons (pv 7) pa_nil)))
      (pss_one (ps_if (PW.pt (pw_and (pt_chain op_lt op_lt pe_int (pv 8) (pe_callB call_len_seq (by rfl) (b_len T) boot_len' (pa_cons (pe_ix ix_list (pv 4) pe_int (fun _ _ => rfl)) pa_nil))) (pw_and1 (pt_cmpR op_ne (pe_cmpR op_lt (pv 7) pe_int (nomark _)) (pe_ix ix_list (pe_ix ix_list (pv 4) pe_int (fun _ _ => rfl)) (pv 8) (fun _ _ => rfl)) (nomark _))))) (pss_one (ps_set (i := 4) n_ulaw_row.nd rfl (by first | exact .inl rfl | exact .inr rfl) (pe_callR (ok_ulaw_after T) (hr.mono (by decide)) rfl (g_ulaw_after T) (k_ulaw_after T) at0 (pa_cons (pv 4) (pa_cons (pv 7) pa_nil))))) pss_nil))))))
      (pss_one (ps_ret (pv 5)))))), fun ds F P h gF => ?_⟩
  obtain ⟨g, xs, k, r, past, j, u, log, s, rfl, hp, hW, u0, u1, k0, k1, hB, hP⟩ := h
  refine .seq (.asg (.evf (.ixL (.ixL (.dget (.var rfl) .str rfl) (.dget (.var rfl) .str rfl) hp) .int rfl) ?_))
  refine .seq (.asg (.nilF fun p hp0 => ?_))
  have hpg : p ≠ g := fun z => by
    obtain ⟨a, b, c, h, _⟩ := hB
    rw [z, h] at hp0
    cases hp0
  have gU : ∀ a b c, Good (upd F g (bagO a b c)) := fun a b c => by
    obtain ⟨_, _, _, h, _⟩ := hB
    exact gF.put h rfl rfl
  refine .seq (.forRange1 (.call (.eva (.cons (.var rfl) (.cons (.var rfl) (.cons .int .nil))) ⟨g, xs, 10, rfl, hB.ne hpg, (by omega), (by omega), fun m a b c m0 m1 a0 c0 => ⟨m, rfl, (by omega), (by omega),
    fun t ss' F' => ∃ ops : List Int, ∃ s' a b c o1 o2 o3, ops.length = t ∧ Wf s' ∧ 0 ≤ a ∧ 0 ≤ c ∧ ss' = [some (.m g), some (.sc xs), some (boxD k r (pastD past) j), some (.i u), some s'.D, some (.m p), o1, o2, o3] ∧ F' = upd (upd F g (bagO a b c)) p (.lst (ops.map V.int)),
    ⟨[], s, a, b, c, none, none, none, rfl, hW, a0, c0, rfl, (upd_comm hpg)⟩, fun t ss' F' ht ⟨ops, s', a, b, c, o1, o2, o3, hl, hW', a0, c0, e1, e2⟩ => ?_, fun ss' F' ⟨ops, s', a, b, c, o1, o2, o3, hl, hW', a0, c0, e1, e2⟩ => ?_⟩⟩)))
  · subst e1 e2
    have n0 := hW'.n0
    refine .seq (.asg (.call (.eva (.cons (.var rfl) (.cons (.var rfl) (.cons (.var rfl) (.cons (.var rfl) (.cons (.dget (.var rfl) .str rfl) .nil))))) ⟨g, xs, s', u, k, rfl, hW', u0, u1, k0, k1, (Bag.put a0 c0).ne hpg, fun op a b c a0 c0 => ?_⟩)))
    rw [upd_swap hpg]
    refine .seq (RnF.app (i := 5) (v0 := .int op) rfl (.var rfl) rfl (by rw [List.length_map]; omega) (fun G v => rep_i) ?_)
    refine .seq (.asg (.evf (.abs (.var rfl)) ?_))
    have fin : ∀ s2 o4, Wf s2 → ∃ ops2 : List Int, ∃ s' a' b' c' o1 o2 o3, ops2.length = t + 1 ∧ Wf s' ∧ 0 ≤ a' ∧ 0 ≤ c' ∧ [some (.m g), some (.sc xs), some (boxD k r (pastD past) j), some (.i u), some s2.D, some (.m p), some (.i (0 + (t : Nat))), some (.i op), o4] = [some (.m g), some (.sc xs), some (boxD k r (pastD past) j), some (.i u), some s'.D, some (.m p), o1, o2, o3] ∧ upd (upd F g (bagO a b c)) p (.lst (ops.map V.int ++ [.int op])) = upd (upd F g (bagO a' b' c')) p (.lst (ops2.map V.int)) := fun s2 o4 h2 =>
      ⟨ops ++ [op], s2, a, b, c, _, _, _, by rw [List.length_append, hl]; rfl, h2, a0, c0, rfl, by rw [List.map_append]; rfl⟩
    refine .ifB (.and (.chain .int (.var rfl) (fun _ => .lenTab (α := Int) (.ixL (.var rfl) .int rfl) (by omega))) (fun h => .test (.neB (.lt (.var rfl) .int) (.ixL (.ixL (.var rfl) .int rfl) (.var rfl) (atI_tab ?_ ?_))))) (fun h => ?_) (fun _ => .nil (fin s' _ hW'))
    · simp only [Bool.and_eq_true, decide_eq_true_eq] at h
      omega
    · simp only [Bool.and_eq_true, decide_eq_true_eq] at h
      omega
    · simp only [Bool.and_eq_true, decide_eq_true_eq, Bool.not_eq_true', decide_eq_false_iff_not] at h
      obtain ⟨⟨h1, h2⟩, h3⟩ := h
      have hL : Leg s' op := by
        refine ⟨by omega, by omega, ?_⟩
        unfold opOn
        unfold iabs at *
        by_cases h4 : op < 0
        · rw [if_pos h4] at *
          cases h5 : s'.O (-op) with
          | false => rw [if_neg (by simp)]; omega
          | true => rw [h5] at h3; simp at h3; omega
        · rw [if_neg h4] at *
          cases h5 : s'.O op with
          | true => rw [if_pos rfl]
          | false => rw [h5] at h3; simp at h3; omega
      exact .asg (.evf (.call (.cons (.var rfl) (.cons (.var rfl) .nil)) ⟨s', op, hW', (by omega), (by omega), rfl, rfl⟩) (fin (aft s' op) _ (wf_aft hW' hL)))
  · subst e1 e2
    refine RnF.retIce rfl rfl (gU a b c) (by rw [upd_ne hpg]; exact hp0) (fun G => RepL.ints) (hP ops _ _ _ (by omega) a0 c0)

end
end Lay
end
section
set_option Elab.async false
set_option linter.all false
set_option autoImplicit false
set_option maxRecDepth 100000
set_option maxHeartbeats 4000000
namespace Lay
open PySem PySem.Spec PyProof.Rows L2


def wrO (k r : Int) (s : St) (len op i : Int) : Option (Str × List DV) :=
  if op = 0 ∨ s.n < iabs op then some ("BadOperation", [.i op, .i i]) else if op ≠ opOn s (iabs op) then some ("Illegal", [.i op, .i i])
  else if refT s op k ≠ "" then some ("Refused", [.i op, .i i, .s (refT s op k)]) else if r ≤ len then some ("Full", [.i r]) else none
def wrD : Option (Str × List DV) → DV
  | some e => errD e.1 e.2
  | none => .n
def ph_wrong (ds : List DV) (d : DV) : Prop := ∃ k r past j log s op i, ds = [boxD k r past j, .l (log.map DV.i), s.D, .i op, .i i] ∧ Wf s ∧ 0 ≤ k ∧ k ≤ 3 ∧ d = wrD (wrO k r s (log : List Int).length op i)
def rch (k r : Int) : List Int → St → List Int → Int → Option (Str × List DV) × List Int × St
  | log, s, [], _ => (none, log, s)
  | log, s, op :: ops, i => match wrO k r s log.length op i with
    | some e => (some e, log, s)
    | none => rch k r (log ++ [op]) (aft s op) ops (i + 1)
theorem rch_cons {k r : Int} {log : List Int} {s : St} {op : Int} {ops : List Int} {i : Int} : rch k r log s (op :: ops) i = match wrO k r s log.length op i with
    | some e => (some e, log, s)
    | none => rch k r (log ++ [op]) (aft s op) ops (i + 1) := rfl
abbrev rchD (x : Option (Str × List DV) × List Int × St) : DV := .t [wrD x.1, .l (x.2.1.map DV.i), x.2.2.D]
def ph_reached (ds : List DV) (d : DV) : Prop := ∃ k r past j log s row, ds = [boxD k r (pastD past) j, .l (row.map DV.i)] ∧ atI (past.map pairD) j = some (pairD (log, s)) ∧ Wf s ∧ 0 ≤ k ∧ k ≤ 3 ∧ log.length ≤ 100000 ∧ row.length ≤ 9 ∧ d = rchD (rch k r log s row 0)
theorem wrO_leg {k r : Int} {s : St} {len op i : Int} (h : wrO k r s len op i = none) : Leg s op ∧ refT s op k = "" ∧ len < r := by
  unfold wrO at h
  split at h
  · cases h
  split at h
  · cases h
  split at h
  · cases h
  split at h
  · cases h
  rename_i h1 h2 h3 h4
  have h1' : op ≠ 0 ∧ iabs op ≤ s.n := ⟨fun z => h1 (.inl z), by omega⟩
  refine ⟨⟨?_, h1'.2, Classical.not_not.mp h2⟩, Classical.not_not.mp h3, by omega⟩
  unfold iabs
  split <;> omega
theorem isN_wrD (o : Option (Str × List DV)) : isN (wrD o) = o.isNone := by cases o <;> rfl
section
variable {w : World} {K : PySem.W.Frag} {mg : Str → Option Value} {base : Heap}

theorem ok_ulaw_error (T : TX K mg) : FnR PW w K mg base CX0 1 (gA "_law_error" K) (PD K (Pu ph_error)) := by
  obtain ⟨fd, F⟩ := f_ulaw_error T
  refine fnD_of F n_ulaw_error (F.bindsN fun _ _ _ _ _ _ us hl => match us, hl with | [_, _], _ => rfl) (fun ds F P ⟨d, ⟨_, _, e, _⟩, _⟩ => by rw [e]; rfl) fun cdv A outer s H E hr => ⟨_, PSs.nox
    (pss_cons (ps_set (i := 2) n_ulaw_error.nd rfl (by first | exact .inl rfl | exact .inr rfl) (pe_lst (pa_cons pe_str pa_nil)))
      (pss_cons (ps_if (pt_cmpR op_in_seq (pv 0) (pe_tup (pa_cons pe_str (pa_cons pe_str (pa_cons pe_str pa_nil)))) (by with_unfolding_all rfl)) (pss_one (ps_expr (pe_bm PySem.F.plainAttrs_list PySem.F.slot_list_append PySem.F.type_list_append mt_append (pv 2) (pa_cons pe_str pa_nil)))) pss_nil)
      (pss_one (ps_ret (pe_tup (pa_cons pe_str (pa_cons (pe_op op_cat (pv 2) (pe_lst (pa_cons (pv 0) pa_nil))) (pa_cons (pv 1) pa_nil)))))))), fun ds F P h gF => ?_⟩
  obtain ⟨d, ⟨x, fs, rfl, rfl⟩, hP⟩ := h
  refine .seq (.asg (.lstF (ds := [.s "ValueError"]) (.cons .str .nil) (by rw [sizeLine_eq]; simp) (fun p vs hp0 hr => ?_) (fun d hd => ⟨.str "ValueError", True.intro, (fun _ z => by cases z), List.mem_singleton.mp hd⟩)))
  have hc : inD (.s x) [.s "BadOperation", .s "Illegal", .s "Refused"] = true ↔ (x = "BadOperation" ∨ x = "Illegal" ∨ x = "Refused") := by
    unfold inD eqF
    simp only [List.any_cons, List.any_nil, Bool.or_eq_true, Bool.or_false, beq_iff_eq]
    constructor
    · rintro (h | h | h)
      · exact .inl h.symm
      · exact .inr (.inl h.symm)
      · exact .inr (.inr h.symm)
    · rintro (h | h | h)
      · exact .inl h.symm
      · exact .inr (.inl h.symm)
      · exact .inr (.inr h.symm)
  have hv : vs = [.str "ValueError"] := by
    obtain ⟨v, e, r⟩ := (hr nilH).one
    rw [e, r.str_inv]
  subst hv
  refine .seq (RnF.mono (R := P) (N := fun ss' F' => ∃ ws : List Str, ss' = [some (.s x), some (.l fs), some (.m p)] ∧ F' = upd F p (.lst (ws.map V.str)) ∧ ws.length ≤ 2 ∧ ws ++ [x] = errW x)
    (.ifB (.test (.inT (.var rfl) (.tup (.cons .str (.cons .str (.cons .str .nil))) (by rw [sizeLine_eq]; simp)) rfl rfl)) (fun h => ?_) (fun h => .nil ⟨["ValueError"], rfl, rfl, by decide, ?_⟩)) (fun ss' F1 ⟨ws, e1, e2, hl, hw⟩ => ?_) (fun _ _ z => z))
  · refine RnF.app (i := 2) (vs := [.str "ValueError"]) (v0 := .str "LogError") rfl .str rfl (by simp) (fun G v r => r.str_inv) ⟨["ValueError", "LogError"], rfl, rfl, by decide, ?_⟩
    unfold errW
    rw [if_pos (hc.mp h)]
    rfl
  · unfold errW
    rw [if_neg fun z => by rw [if_neg (by simp), hc.mpr z] at h; cases h]
    rfl
  subst e1 e2
  refine RnF.freeze (i := 2) (ds := ws.map DV.s) rfl rfl gF hp0 (fun G => ⟨by simp, fun k v d h1 h2 => ?_⟩) ?_
  · rw [List.getElem?_map] at h1 h2
    cases e : ws[k]? with
    | none => rw [e] at h1; cases h1
    | some y =>
      rw [e] at h1 h2
      cases h1
      cases h2
      exact .s y
  refine .ret (.evf (.tup (.cons .str (.cons (.cat (.var rfl) (.lst (.cons (.var rfl) .nil) (by rw [sizeLine_eq]; simp)) (by rw [List.length_map, sizeLine_eq]; simp; omega)) (.cons (.var rfl) .nil))) (by rw [sizeLine_eq]; simp)) ?_)
  have e : ws.map DV.s ++ [.s x] = (errW x).map DV.s := by rw [← hw, List.map_append]; rfl
  rw [e]
  exact hP

theorem ok_ulaw_wrong (T : TX K mg) : FnR PW w K mg base CX0 4 (gA "_law_wrong" K) (PD K (Pu ph_wrong)) := by
  obtain ⟨fd, F⟩ := f_ulaw_wrong T
  refine fnD_of F n_ulaw_wrong (F.bindsN fun _ _ _ _ _ _ us hl => match us, hl with | [_, _, _, _, _], _ => rfl) (fun ds F P ⟨d, ⟨_, _, _, _, _, _, _, _, e, _⟩, _⟩ => by rw [e]; rfl) fun cdv A outer s H E hr => ⟨_, PSs.nox
    (pss_cons (ps_if (PW.pt (pw_or (pt_cmpR op_eq (pv 3) pe_int (nomark _)) (pw_or1 (pt_cmpR op_ge (pe_callB call_abs (by rfl) (b_abs T) boot_abs' (pa_cons (pv 3) pa_nil)) (pe_callB call_len_seq (by rfl) (b_len T) boot_len' (pa_cons (pe_ix ix_list (pv 2) pe_int (fun _ _ => rfl)) pa_nil)) (nomark _))))) (pss_one (ps_ret (pe_callR (ok_ulaw_error T) (hr.mono (by decide)) rfl (g_ulaw_error T) (k_ulaw_error T) at0 (pa_cons pe_str (pa_cons (pe_lst (pa_cons (pv 3) (pa_cons (pv 4) pa_nil))) pa_nil))))) pss_nil)
      (pss_cons (ps_if (pt_cmpR op_eq (pe_cmpR op_lt (pv 3) pe_int (nomark _)) (pe_ix ix_list (pe_ix ix_list (pv 2) pe_int (fun _ _ => rfl)) (pe_callB call_abs (by rfl) (b_abs T) boot_abs' (pa_cons (pv 3) pa_nil)) (fun _ _ => rfl)) (nomark _)) (pss_one (ps_ret (pe_callR (ok_ulaw_error T) (hr.mono (by decide)) rfl (g_ulaw_error T) (k_ulaw_error T) at0 (pa_cons pe_str (pa_cons (pe_lst (pa_cons (pv 3) (pa_cons (pv 4) pa_nil))) pa_nil))))) pss_nil)
      (pss_cons (ps_set (i := 5) n_ulaw_wrong.nd rfl (by first | exact .inl rfl | exact .inr rfl) (pe_callR (ok_ulaw_refusing T) (hr.mono (by decide)) rfl (g_ulaw_refusing T) (k_ulaw_refusing T) at0 (pa_cons (pv 2) (pa_cons (pv 3) (pa_cons (pe_dget (hu_of hr) (pv 0) pe_str (fun _ _ => rfl)) pa_nil)))))
      (pss_cons (ps_if (pt_cmpR op_ne (pv 5) pe_str (nomark _)) (pss_one (ps_ret (pe_callR (ok_ulaw_error T) (hr.mono (by decide)) rfl (g_ulaw_error T) (k_ulaw_error T) at0 (pa_cons pe_str (pa_cons (pe_lst (pa_cons (pv 3) (pa_cons (pv 4) (pa_cons (pv 5) pa_nil)))) pa_nil))))) pss_nil)
      (pss_cons (ps_if (pt_cmpR op_ge (pe_callB call_len_seq (by rfl) (b_len T) boot_len' (pa_cons (pv 1) pa_nil)) (pe_dget (hu_of hr) (pv 0) pe_str (fun _ _ => rfl)) (nomark _)) (pss_one (ps_ret (pe_callR (ok_ulaw_error T) (hr.mono (by decide)) rfl (g_ulaw_error T) (k_ulaw_error T) at0 (pa_cons pe_str (pa_cons (pe_lst (pa_cons (pe_dget (hu_of hr) (pv 0) pe_str (fun _ _ => rfl)) pa_nil)) pa_nil))))) pss_nil)
      (pss_one (ps_ret pe_non))))))), fun ds F P h gF => ?_⟩
  obtain ⟨d, ⟨k, r, past, j, log, s, op, i, rfl, hW, k0, k1, rfl⟩, hP⟩ := h
  have n0 := hW.n0
  unfold wrO at hP
  refine .seq (.ifB (.or (.test (.eqI (.var rfl) .int)) (fun _ => .test (.ge (.abs (.var rfl)) (.lenTab (α := Int) (.ixL (.var rfl) .int rfl) (by omega))))) (fun h => .ret (.evf (.call (.cons .str (.cons (.lst (.cons (.var rfl) (.cons (.var rfl) .nil)) (by rw [sizeLine_eq]; simp)) .nil)) ⟨"BadOperation", _, rfl, rfl⟩) ?_)) (fun h => .nil ?_))
  · simp only [Bool.or_eq_true, decide_eq_true_eq] at h
    rw [if_pos (by omega)] at hP
    exact hP
  have h1 : op ≠ 0 ∧ iabs op ≤ s.n := by
    simp only [Bool.or_eq_false_iff, decide_eq_false_iff_not] at h
    omega
  have h2 : 1 ≤ iabs op := by have := h1.1; unfold iabs; split <;> omega
  rw [if_neg (by omega)] at hP
  have hx : decide ((decide (op < 0)) = s.O (iabs op)) = decide (op ≠ opOn s (iabs op)) := by
    unfold opOn
    have h3 : iabs op = if op < 0 then -op else op := rfl
    by_cases h4 : op < 0
    · rw [if_pos h4] at h3
      cases s.O (iabs op) <;> simp [h4, h3] <;> omega
    · rw [if_neg h4] at h3
      cases s.O (iabs op) <;> simp [h4, h3] <;> omega
  refine .seq (.ifB (.test (.eqB (.lt (.var rfl) .int) (.ixL (.ixL (.var rfl) .int rfl) (.abs (.var rfl)) (atI_tab (by omega) (by omega))))) (fun h => .ret (.evf (.call (.cons .str (.cons (.lst (.cons (.var rfl) (.cons (.var rfl) .nil)) (by rw [sizeLine_eq]; simp)) .nil)) ⟨"Illegal", _, rfl, rfl⟩) ?_)) (fun h => .nil ?_))
  · rw [hx] at h
    rw [if_pos (of_decide_eq_true h)] at hP
    exact hP
  rw [hx] at h
  rw [if_neg (of_decide_eq_false h)] at hP
  have hL : Leg s op := ⟨h2, h1.2, Classical.not_not.mp (of_decide_eq_false h)⟩
  refine .seq (.asg (.evf (.call (.cons (.var rfl) (.cons (.var rfl) (.cons (.dget (.var rfl) .str rfl) .nil))) ⟨s, op, k, hW, hL, k0, k1, rfl, rfl⟩) ?_))
  refine .seq (.ifB (.test (.neS (.var rfl) .str)) (fun h => .ret (.evf (.call (.cons .str (.cons (.lst (.cons (.var rfl) (.cons (.var rfl) (.cons (.var rfl) .nil))) (by rw [sizeLine_eq]; simp)) .nil)) ⟨"Refused", _, rfl, rfl⟩) ?_)) (fun h => .nil ?_))
  · rw [if_pos (by simpa using h)] at hP
    exact hP
  rw [if_neg (by simpa using h)] at hP
  refine .seq (.ifB (.test (.ge (.lenI (.var rfl)) (.dget (.var rfl) .str rfl))) (fun h => .ret (.evf (.call (.cons .str (.cons (.lst (.cons (.dget (.var rfl) .str rfl) .nil) (by rw [sizeLine_eq]; simp)) .nil)) ⟨"Full", _, rfl, rfl⟩) ?_)) (fun h => .nil (.ret (.evf .non ?_))))
  · rw [if_pos (of_decide_eq_true h)] at hP
    exact hP
  · rw [if_neg (of_decide_eq_false h)] at hP
    exact hP

theorem ok_ulaw_reached (T : TX K mg) : FnR PW w K mg base CX0 5 (gA "_law_reached" K) (PD K (Pu ph_reached)) := by
  obtain ⟨fd, F⟩ := f_ulaw_reached T
  refine fnD_of F n_ulaw_reached (F.bindsN fun _ _ _ _ _ _ us hl => match us, hl with | [_, _], _ => rfl) (fun ds F P ⟨d, ⟨_, _, _, _, _, _, _, e, _⟩, _⟩ => by rw [e]; rfl) fun cdv A outer s H E hr => ⟨_, PSs.nox
    (pss_cons (ps_asg (pe_ix ix_list (pe_dget (hu_of hr) (pv 0) pe_str (fun _ _ => rfl)) (pe_dget (hu_of hr) (pv 0) pe_str (fun _ _ => rfl)) (fun _ _ => rfl)) (by exact pg_unl rfl (pgs_cons (pg_name (i := 2) n_ulaw_reached.nd rfl (by first | exact .inl rfl | exact .inr rfl)) (pgs_cons (pg_name (i := 3) n_ulaw_reached.nd rfl (by first | exact .inl rfl | exact .inr rfl)) pgs_nil))))
      (pss_cons (ps_for PassesOwn.never rfl (pi_range1 (by rfl) (b_range T) (pa_cons (pe_callB call_len_seq (by rfl) (b_len T) boot_len' (pa_cons (pv 1) pa_nil)) pa_nil)) (pg_name (i := 4) n_ulaw_reached.nd rfl (by first | exact .inl rfl | exact .inr rfl)) (pss_cons (ps_set (i := 5) n_ulaw_reached.nd rfl (by first | exact .inl rfl | exact .inr rfl) (pe_callR (ok_ulaw_wrong T) (hr.mono (by decide)) rfl (g_ulaw_wrong T) (k_ulaw_wrong T) at0 (pa_cons (pv 0) (pa_cons (pv 2) (pa_cons (pv 3) (pa_cons (pe_ix ix_list (pv 1) (pv 4) (fun _ _ => rfl)) (pa_cons (pv 4) pa_nil)))))))
      (pss_cons (ps_if (pt_cmpR op_notN (pv 5) pe_non (nomark _)) (pss_one (ps_ret (pe_tup (pa_cons (pv 5) (pa_cons (pv 2) (pa_cons (pv 3) pa_nil)))))) pss_nil)
      (pss_cons (ps_set (i := 2) n_ulaw_reached.nd rfl (by first | exact .inl rfl | exact .inr rfl) (pe_op op_cat (pv 2) (pe_lst (pa_cons (pe_ix ix_list (pv 1) (pv 4) (fun _ _ => rfl)) pa_nil))))
      (pss_one (ps_set (i := 3) n_ulaw_reached.nd rfl (by first | exact .inl rfl | exact .inr rfl) (pe_callR (ok_ulaw_after T) (hr.mono (by decide)) rfl (g_ulaw_after T) (k_ulaw_after T) at0 (pa_cons (pv 3) (pa_cons (pe_ix ix_list (pv 1) (pv 4) (fun _ _ => rfl)) pa_nil)))))))))
      (pss_one (ps_ret (pe_tup (pa_cons pe_non (pa_cons (pv 2) (pa_cons (pv 3) pa_nil)))))))), fun ds F P h gF => ?_⟩
  obtain ⟨d, ⟨k, r, past, j, log, s, row, rfl, hp, hW, k0, k1, hl, hr0, rfl⟩, hP⟩ := h
  refine .seq (.unl2 (.evf (.ixL (.dget (.var rfl) .str rfl) (.dget (.var rfl) .str rfl) hp) ⟨_, _, rfl, ?_⟩))
  refine .seq (.forRange1 (.evf (.lenI (.var rfl)) ⟨row.length, rfl, (by omega), (by omega),
    fun t ss' F' => ∃ log' s' o1 o2, Wf s' ∧ (log' : List Int).length ≤ 100000 + t ∧ rch k r log s row 0 = rch k r log' s' (row.drop t) t ∧ ss' = [some (boxD k r (pastD past) j), some (.l (row.map DV.i)), some (.l (log'.map DV.i)), some s'.D, o1, o2] ∧ F' = F,
    ⟨log, s, none, none, hW, hl, rfl, rfl, rfl⟩, fun t ss' F' ht ⟨log', s', o1, o2, hW', hl', hr1, e1, e2⟩ => ?_, fun ss' F' ⟨log', s', o1, o2, hW', hl', hr1, e1, e2⟩ => ?_⟩))
  · subst e1 e2
    have ht : t < row.length := by omega
    have hx : atI (row.map DV.i) (0 + (t : Nat)) = some (.i row[t]) := by
      unfold atI
      rw [ixN_tab (by omega) (by rw [List.length_map]; omega)]
      show (row.map DV.i)[(0 + (t : Int)).toNat]? = _
      rw [List.getElem?_map, show (0 + (t : Int)).toNat = t by omega, List.getElem?_eq_getElem ht]
      rfl
    have hd : row.drop t = row[t] :: row.drop (t + 1) := List.drop_eq_getElem_cons ht
    rw [hd, rch_cons] at hr1
    refine .seq (.asg (.evf (.call (.cons (.var rfl) (.cons (.var rfl) (.cons (.var rfl) (.cons (.ixL (.var rfl) (.var rfl) hx) (.cons (.var rfl) .nil))))) ⟨k, r, pastD past, j, log', s', row[t], 0 + (t : Nat), rfl, hW', k0, k1, rfl⟩) ?_))
    rw [show (0 + (t : Int)) = t by omega] at *
    refine .seq (.ifB (.test (.notNone (.var rfl) .non)) (fun h => .ret (.evf (.tup (.cons (.var rfl) (.cons (.var rfl) (.cons (.var rfl) .nil))) (by rw [sizeLine_eq]; simp)) ?_)) (fun h => .nil ?_))
    · rw [isN_wrD] at h
      cases e : wrO k r s' log'.length row[t] t with
      | none => rw [e] at h; cases h
      | some e' =>
        rw [e] at hr1
        rw [hr1] at hP
        exact hP
    · rw [isN_wrD] at h
      cases e : wrO k r s' log'.length row[t] t with
      | some e' => rw [e] at h; cases h
      | none =>
        rw [e] at hr1
        obtain ⟨hL, _, _⟩ := wrO_leg e
        refine .seq (.asg (.evf (d := .l ((log' ++ [row[t]]).map DV.i)) (by
          rw [List.map_append]
          exact .cat (.var rfl) (.lst (.cons (.ixL (.var rfl) (.var rfl) hx) .nil) (by rw [sizeLine_eq]; simp)) (by rw [List.length_map, sizeLine_eq]; simp; omega)) ?_))
        refine .asg (.evf (.call (.cons (.var rfl) (.cons (.ixL (.var rfl) (.var rfl) hx) .nil)) ⟨s', row[t], hW', hL.lo, hL.hi, rfl, rfl⟩) ?_)
        exact ⟨log' ++ [row[t]], aft s' row[t], _, _, wf_aft hW' hL, by rw [List.length_append]; simp; omega, hr1, rfl, rfl⟩
  · subst e1 e2
    rw [show row.drop (row.length : Int).toNat = [] by simp] at hr1
    rw [hr1] at hP
    exact .ret (.evf (.tup (.cons .non (.cons (.var rfl) (.cons (.var rfl) .nil))) (by rw [sizeLine_eq]; simp)) hP)

end
end Lay
end
section
set_option Elab.async false
set_option linter.all false
set_option autoImplicit false
set_option maxRecDepth 100000
set_option maxHeartbeats 4000000
namespace Lay
open PySem PySem.Spec PyProof.Rows L2


abbrev doneD (d : DV) : DV := .t [.s "done", d]
/-- what due answers, the past and the spot behind it -/
def dueB (k r : Int) (past : List (List Int × St)) (j : Nat) (log : List Int) (s : St) (x : Str) (ops : List Int) : DV × List (List Int × St) × Nat :=
  if x = "undo" then if j = 0 then (errD "NothingToUndo" [], past, j) else (doneD .n, past, j - 1)
  else if x = "redo" then if j + 1 = past.length then (errD "NothingToRedo" [], past, j) else (doneD .n, past, j + 1)
  else match (rch k r log s ops 0).1 with
    | some e => (errD e.1 e.2, past, j)
    | none => (doneD (if x = "do" then .n else .i ops.length), if ops = [] then past else past.take (j + 1) ++ [(rch k r log s ops 0).2], if ops = [] then j else j + 1)
def ph_box : Ph := fun ds F P => ∃ n k r : Int, ds = [.i n, .i k, .i r] ∧ 0 ≤ n ∧ n ≤ 60 ∧ ∀ b v, F b = none → P (.gh (.m b) v (pastD [([], St0 n)])) (upd F b (boxO k r v 0))
def ph_add : Ph := fun ds F P => ∃ b v F0 k r past log s, ∃ j : Nat, ds = [.gh (.m b) v (pastD past), .l (log.map DV.i), s.D] ∧ F = upd F0 b (boxO k r v j) ∧ F0 b = none ∧ Good F0 ∧ j < past.length ∧ past.length ≤ 100000 ∧
  ∀ v', P (.gh .n v' (pastD (past.take (j + 1) ++ [(log, s)]))) (upd F0 b (boxO k r v' ((j : Int) + 1)))
def ph_ldue : Ph := fun ds F P => ∃ b v F0 k r past log s, ∃ j : Nat, ∃ x ops, ds = [.gh (.m b) v (pastD past), deedD x ops] ∧ F = upd F0 b (boxO k r v j) ∧ F0 b = none ∧ Good F0 ∧ past[j]? = some (log, s) ∧ past.length ≤ 100000 ∧
  Wf s ∧ 0 ≤ k ∧ k ≤ 3 ∧ log.length ≤ 100000 ∧ (ops : List Int).length ≤ 9 ∧
  ∀ v', P (.gh (dueB k r past j log s x ops).1 v' (pastD (dueB k r past j log s x ops).2.1)) (upd F0 b (boxO k r v' ((dueB k r past j log s x ops).2.2 : Int)))
theorem nd_pair (x : List Int × St) : ND (pairD x) := .consL .ints (.consL .st .nil)
theorem nd_past (past : List (List Int × St)) : ND (pastD past) := .l fun d hd => by
  obtain ⟨x, _, rfl⟩ := List.mem_map.mp hd
  exact nd_pair x
theorem atI_past {past : List (List Int × St)} {j : Nat} {x : List Int × St} (h : past[j]? = some x) : atI (past.map pairD) j = some (pairD x) := by
  have hl := (List.getElem?_eq_some_iff.mp h).1
  unfold atI
  rw [ixN_tab (by omega) (by rw [List.length_map]; omega)]
  show (past.map pairD)[((j : Nat) : Int).toNat]? = _
  rw [List.getElem?_map, show ((j : Nat) : Int).toNat = j by omega, h]
  rfl
theorem nd_err {x : Str} {fs : List DV} (h : ND (.l fs)) : ND (errD x fs) := .consT (.s _) (.consT .strs (.consT h .nilT))
theorem nd_wr {k r : Int} {s : St} {len op i : Int} : ND (wrD (wrO k r s len op i)) := by
  unfold wrO
  split
  · exact nd_err (.consL (.i _) (.consL (.i _) .nil))
  split
  · exact nd_err (.consL (.i _) (.consL (.i _) .nil))
  split
  · exact nd_err (.consL (.i _) (.consL (.i _) (.consL (.s _) .nil)))
  split
  · exact nd_err (.consL (.i _) .nil)
  · exact .n
theorem nd_rch1 {k r : Int} : ∀ (ops log : List Int) (s : St) (i : Int), ND (wrD (rch k r log s ops i).1)
  | [], log, s, i => .n
  | op :: ops, log, s, i => by
    rw [rch_cons]
    cases e : wrO k r s log.length op i with
    | some z =>
      have h := nd_wr (k := k) (r := r) (s := s) (len := log.length) (op := op) (i := i)
      rw [e] at h
      exact h
    | none => exact nd_rch1 ops _ _ _
theorem nd_rch {k r : Int} {log : List Int} {s : St} {ops : List Int} {i : Int} : ND (rchD (rch k r log s ops i)) := .consT (nd_rch1 ops log s i) (.consT .ints (.consT .st .nilT))
section
variable {w : World} {K : PySem.W.Frag} {mg : Str → Option Value} {base : Heap}

theorem ok_ulaw_deed (T : TX K mg) : FnR PW w K mg base CX0 6 (gA "_law_deed" K) (PD K ph_deed) := by
  obtain ⟨fd, F⟩ := f_ulaw_deed T
  refine fnD_of F n_ulaw_deed (F.bindsN fun _ _ _ _ _ _ us hl => match us, hl with | [_, _, _, _], _ => rfl) (fun ds F P ⟨_, _, _, _, _, _, _, _, _, e, _⟩ => by rw [e]; rfl) fun cdv A outer s H E hr => ⟨_, PSs.nox
    (pss_cons (ps_set (i := 4) n_ulaw_deed.nd rfl (by first | exact .inl rfl | exact .inr rfl) (pe_callR (ok_ulaw_draw T) (hr.mono (by decide)) rfl (g_ulaw_draw T) (k_ulaw_draw T) at0 (pa_cons (pv 0) (pa_cons (pv 1) (pa_cons pe_int pa_nil)))))
      (pss_cons (ps_if (pt_cmpR op_lt (pv 4) pe_int (nomark _)) (pss_one (ps_ret (pe_tup (pa_cons pe_str (pa_cons (pe_lst pa_nil) pa_nil))))) pss_nil)
      (pss_cons (ps_if (pt_cmpR op_eq (pv 4) pe_int (nomark _)) (pss_one (ps_ret (pe_tup (pa_cons pe_str (pa_cons (pe_lst pa_nil) pa_nil))))) pss_nil)
      (pss_cons (ps_if (pt_cmpR op_lt (pv 4) pe_int (nomark _)) (pss_cons (ps_set (i := 5) n_ulaw_deed.nd rfl (by first | exact .inl rfl | exact .inr rfl) (pe_ix ix_list (pe_ix ix_list (pe_dget (hu_of hr) (pv 2) pe_str (fun _ _ => rfl)) (pe_dget (hu_of hr) (pv 2) pe_str (fun _ _ => rfl)) (fun _ _ => rfl)) pe_int (fun _ _ => rfl)))
      (pss_one (ps_ret (pe_tup (pa_cons pe_str (pa_cons (pe_lst (pa_cons (pe_callR (ok_ulaw_operation T) (hr.mono (by decide)) rfl (g_ulaw_operation T) (k_ulaw_operation T) at0 (pa_cons (pv 0) (pa_cons (pv 1) (pa_cons (pv 5) (pa_cons (pv 3) (pa_cons (pe_dget (hu_of hr) (pv 2) pe_str (fun _ _ => rfl)) pa_nil)))))) pa_nil)) pa_nil)))))) pss_nil)
      (pss_one (ps_ret (pe_tup (pa_cons pe_str (pa_cons (pe_callR (ok_ulaw_row T) (hr.mono (by decide)) rfl (g_ulaw_row T) (k_ulaw_row T) at0 (pa_cons (pv 0) (pa_cons (pv 1) (pa_cons (pv 2) (pa_cons (pv 3) pa_nil))))) pa_nil))))))))), fun ds F P h gF => ?_⟩
  obtain ⟨g, xs, k, r, past, j, u, log, s, rfl, hp, hW, u0, u1, k0, k1, hB, hP⟩ := h
  refine .seq (.asg (.call (.eva (.cons (.var rfl) (.cons (.var rfl) (.cons .int .nil))) ⟨g, xs, 11, rfl, hB, (by omega), (by omega), fun r' a b c r0 r1 a0 c0 => ?_⟩)))
  refine .seq (.ifB (.test (.lt (.var rfl) .int)) (fun _ => .ret (.evf (.tup (.cons .str (.cons (.lst .nil (by rw [sizeLine_eq]; simp)) .nil)) (by rw [sizeLine_eq]; simp)) (hP "undo" [] _ _ _ (.inl ⟨rfl, rfl⟩) a0 c0))) (fun _ => .nil ?_))
  refine .seq (.ifB (.test (.eqI (.var rfl) .int)) (fun _ => .ret (.evf (.tup (.cons .str (.cons (.lst .nil (by rw [sizeLine_eq]; simp)) .nil)) (by rw [sizeLine_eq]; simp)) (hP "redo" [] _ _ _ (.inr (.inl ⟨rfl, rfl⟩)) a0 c0))) (fun _ => .nil ?_))
  refine .seq (.ifB (.test (.lt (.var rfl) .int)) (fun _ => ?_) (fun _ => .nil ?_))
  · refine .seq (.asg (.evf (.ixL (.ixL (.dget (.var rfl) .str rfl) (.dget (.var rfl) .str rfl) hp) .int rfl) ?_))
    refine .ret (.tupA (.cons (.evf .str (.cons (.lstA (.cons (.call (.eva (.cons (.var rfl) (.cons (.var rfl) (.cons (.var rfl) (.cons (.var rfl) (.cons (.dget (.var rfl) .str rfl) .nil))))) ⟨g, xs, s, u, k, rfl, hW, u0, u1, k0, k1, (.put a0 c0), fun op a b c a0 c0 => .nil ⟨(by rw [sizeLine_eq]; simp), .nil ⟨(by rw [sizeLine_eq]; simp), ?_⟩⟩⟩))))))))
    rw [upd_upd]
    exact hP "do" [op] _ _ _ (.inr (.inr (.inl ⟨rfl, rfl⟩))) a0 c0
  refine .ret (.tupA (.cons (.evf .str (.cons (.call (.eva (.cons (.var rfl) (.cons (.var rfl) (.cons (.var rfl) (.cons (.var rfl) .nil)))) ⟨g, xs, k, r, past, j, u, log, s, rfl, hp, hW, u0, u1, k0, k1, (.put a0 c0), fun ops a b c hl a0 c0 => .nil ⟨(by rw [sizeLine_eq]; simp), ?_⟩⟩))))))
  rw [upd_upd]
  exact hP "attempt" ops _ _ _ (.inr (.inr (.inr ⟨rfl, hl⟩))) a0 c0

theorem ok_ulaw_box (T : TX K mg) : FnR PW w K mg base CX0 2 (gA "_law_box" K) (PD K ph_box) := by
  obtain ⟨fd, F⟩ := f_ulaw_box T
  refine fnD_of F n_ulaw_box (F.bindsN fun _ _ _ _ _ _ us hl => match us, hl with | [_, _, _], _ => rfl) (fun ds F P ⟨_, _, _, e, _⟩ => by rw [e]; rfl) fun cdv A outer s H E hr => ⟨_, PSs.nox
    (pss_one (ps_ret (pe_disp (pps_cons pe_str (pv 1) (pps_cons pe_str (pv 2) (pps_cons pe_str (pe_lst (pa_cons (pe_lst (pa_cons (pe_lst pa_nil) (pa_cons (pe_callR (ok_ulaw_whole T) (hr.mono (by decide)) rfl (g_ulaw_whole T) (k_ulaw_whole T) at0 (pa_cons (pv 0) pa_nil)) pa_nil))) pa_nil)) (pps_cons pe_str pe_int pps_nil)))) rfl rfl (by simp) (by decide)))), fun ds F P h gF => ?_⟩
  obtain ⟨n, k, r, rfl, n0, n1, hP⟩ := h
  exact .ret (.box4 (.var rfl) rfl (.var rfl) rfl (.lst (.cons (.lst (.cons (.lst .nil (by rw [sizeLine_eq]; simp)) (.cons (.call (.cons (.var rfl) .nil) ⟨n, n0, n1, rfl, rfl⟩) .nil)) (by rw [sizeLine_eq]; simp)) .nil) (by rw [sizeLine_eq]; simp)) .int rfl (fun v => rfl) (fun p v hp => hP p v hp))

theorem ok_ulaw_add (T : TX K mg) : FnR PW w K mg base CX0 1 (gA "_law_add" K) (PD K ph_add) := by
  obtain ⟨fd, F⟩ := f_ulaw_add T
  refine fnDG_of F n_ulaw_add (F.bindsN fun _ _ _ _ _ _ us hl => match us, hl with | [_, _, _], _ => rfl) (fun ds F P ⟨_, _, _, _, _, _, _, _, _, e, _⟩ => by rw [e]; rfl) fun cdv A outer s H E hr => ⟨_, PSs.nox
    (pss_cons (ps_dput (hu_of hr) (pv 0) pe_str (pe_op op_cat (pe_slice sl_list (pe_dget (hu_of hr) (pv 0) pe_str (fun _ _ => rfl)) po_none (po_some (pe_op op_add (pe_dget (hu_of hr) (pv 0) pe_str (fun _ _ => rfl)) pe_int))) (pe_lst (pa_cons (pe_lst (pa_cons (pv 1) (pa_cons (pv 2) pa_nil))) pa_nil))) rfl)
      (pss_one (ps_dput (hu_of hr) (pv 0) pe_str (pe_op op_add (pe_dget (hu_of hr) (pv 0) pe_str (fun _ _ => rfl)) pe_int) rfl))), fun ds F P h gF => ?_⟩
  obtain ⟨b, v, F0, k, r, past, log, s, j, rfl, hF, h0, gF0, hj, hz, hP⟩ := h
  have hcut : cutD (past.map pairD) none (some ((j : Int) + 1)) = (past.take (j + 1)).map pairD := by
    unfold cutD
    have e1 : HT.sIx (past.map pairD).length 0 none = 0 := rfl
    have e2 : HT.sIx (past.map pairD).length (past.map pairD).length (some ((j : Int) + 1)) = j + 1 := by
      rw [List.length_map]
      have hn : ¬ ((j : Int) + 1 < 0) := by omega
      unfold HT.sIx
      simp [hn]
      omega
    rw [e1, e2, List.drop_zero, Nat.sub_zero, List.map_take]
  refine .seq (.dputG (j := 0) rfl (EvF.viewB (i := 0) rfl hF h0 gF0 (fun G x hG r => box_view hG r) (.evf (.cat (.slice (.dget (.var rfl) .str rfl) .no (.some (.add (.dget (.var rfl) .str rfl) .int))) (.lst (.cons (.lst (.cons (.var rfl) (.cons (.var rfl) .nil)) (by rw [sizeLine_eq]; simp)) .nil) (by rw [sizeLine_eq]; simp)) (by rw [hcut, List.length_map, List.length_take, sizeLine_eq]; simp; omega)) ⟨?_, ?_⟩)) (.unG (.var rfl)))
  · rw [hcut]
    have z := nd_past (past.take (j + 1) ++ [(log, s)])
    unfold pastD at z
    rw [List.map_append] at z
    exact z
  refine ⟨_, upd_same, by simp, fun v' => ?_⟩
  rw [upd_upd, hcut]
  have e : (past.take (j + 1)).map pairD ++ [.l [.l (log.map DV.i), s.D]] = (past.take (j + 1) ++ [(log, s)]).map pairD := by rw [List.map_append]; rfl
  rw [e]
  have e2 : HO.dK (putK [(.inr "level", .int k), (.inr "room", .int r), (.inr "past", v), (.inr "spot", .int j)] (.inr "past") v') = boxO k r v' j := rfl
  rw [e2]
  refine .dputS (EvF.viewB (i := 0) (d' := .gh (.m b) v' (pastD (past.take (j + 1) ++ [(log, s)]))) rfl rfl h0 gF0 (fun G x hG r => box_view hG r) (.evf (.add (.dget (.var rfl) .str rfl) .int) ⟨.i _, rfl, _, upd_same, by simp, ?_⟩)) (.unG (.var rfl))
  rw [upd_upd]
  exact ⟨_, _, _, rfl, hP v'⟩

end
end Lay
end
section
set_option Elab.async false
set_option linter.all false
set_option autoImplicit false
set_option maxRecDepth 100000
set_option maxHeartbeats 4000000
namespace Lay
open PySem PySem.Spec PyProof.Rows L2


section
variable {w : World} {K : PySem.W.Frag} {mg : Str → Option Value} {base : Heap}

theorem ok_ulaw_due (T : TX K mg) : FnR PW w K mg base CX0 6 (gA "_law_due" K) (PD K ph_ldue) := by
  obtain ⟨fd, F⟩ := f_ulaw_due T
  refine fnD_of F n_ulaw_due (F.bindsN fun _ _ _ _ _ _ us hl => match us, hl with | [_, _], _ => rfl) (fun ds F P ⟨_, _, _, _, _, _, _, _, _, _, _, e, _⟩ => by rw [e]; rfl) fun cdv A outer s H E hr => ⟨_, PSs.nox
    (pss_cons (ps_if (pt_cmpR op_eq (pe_ix ix_tup (pv 1) pe_int (fun _ _ => rfl)) pe_str (nomark _)) (pss_cons (ps_if (pt_cmpR op_eq (pe_dget (hu_of hr) (pv 0) pe_str (fun _ _ => rfl)) pe_int (nomark _)) (pss_one (ps_ret (pe_callR (ok_ulaw_error T) (hr.mono (by decide)) rfl (g_ulaw_error T) (k_ulaw_error T) at0 (pa_cons pe_str (pa_cons (pe_lst pa_nil) pa_nil))))) pss_nil)
      (pss_cons (ps_dput (hu_of hr) (pv 0) pe_str (pe_op op_sub (pe_dget (hu_of hr) (pv 0) pe_str (fun _ _ => rfl)) pe_int) rfl)
      (pss_one (ps_ret (pe_tup (pa_cons pe_str (pa_cons pe_non pa_nil))))))) pss_nil)
      (pss_cons (ps_if (pt_cmpR op_eq (pe_ix ix_tup (pv 1) pe_int (fun _ _ => rfl)) pe_str (nomark _)) (pss_cons (ps_if (pt_cmpR op_eq (pe_op op_add (pe_dget (hu_of hr) (pv 0) pe_str (fun _ _ => rfl)) pe_int) (pe_callB call_len_seq (by rfl) (b_len T) boot_len' (pa_cons (pe_dget (hu_of hr) (pv 0) pe_str (fun _ _ => rfl)) pa_nil)) (nomark _)) (pss_one (ps_ret (pe_callR (ok_ulaw_error T) (hr.mono (by decide)) rfl (g_ulaw_error T) (k_ulaw_error T) at0 (pa_cons pe_str (pa_cons (pe_lst pa_nil) pa_nil))))) pss_nil)
      (pss_cons (ps_dput (hu_of hr) (pv 0) pe_str (pe_op op_add (pe_dget (hu_of hr) (pv 0) pe_str (fun _ _ => rfl)) pe_int) rfl)
      (pss_one (ps_ret (pe_tup (pa_cons pe_str (pa_cons pe_non pa_nil))))))) pss_nil)
      (pss_cons (ps_asg (pe_callR (ok_ulaw_reached T) (hr.mono (by decide)) rfl (g_ulaw_reached T) (k_ulaw_reached T) at0 (pa_cons (pv 0) (pa_cons (pe_ix ix_tup (pv 1) pe_int (fun _ _ => rfl)) pa_nil))) (by exact pg_tup rfl (pgs_cons (pg_name (i := 2) n_ulaw_due.nd rfl (by first | exact .inl rfl | exact .inr rfl)) (pgs_cons (pg_name (i := 3) n_ulaw_due.nd rfl (by first | exact .inl rfl | exact .inr rfl)) (pgs_cons (pg_name (i := 4) n_ulaw_due.nd rfl (by first | exact .inl rfl | exact .inr rfl)) pgs_nil)))))
      (pss_cons (ps_if (pt_cmpR op_notN (pv 2) pe_non (nomark _)) (pss_one (ps_ret (pv 2))) pss_nil)
      (pss_cons (ps_if (pt_cmpR (op_neD hr.units) (pe_ix ix_tup (pv 1) pe_int (fun _ _ => rfl)) (pe_lst pa_nil) (nomark _)) (pss_one (ps_expr (pe_callR (ok_ulaw_add T) (hr.mono (by decide)) rfl (g_ulaw_add T) (k_ulaw_add T) at0 (pa_cons (pv 0) (pa_cons (pv 3) (pa_cons (pv 4) pa_nil)))))) pss_nil)
      (pss_cons (ps_if (pt_cmpR op_eq (pe_ix ix_tup (pv 1) pe_int (fun _ _ => rfl)) pe_str (nomark _)) (pss_one (ps_ret (pe_tup (pa_cons pe_str (pa_cons pe_non pa_nil))))) pss_nil)
      (pss_one (ps_ret (pe_tup (pa_cons pe_str (pa_cons (pe_callB call_len_seq (by rfl) (b_len T) boot_len' (pa_cons (pe_ix ix_tup (pv 1) pe_int (fun _ _ => rfl)) pa_nil)) pa_nil))))))))))), fun ds F P h gF => ?_⟩
  obtain ⟨b, v, F0, k, r, past, log, s, j, x, ops, rfl, hF, h0, gF0, hj, hz, hW, k0, k1, hl, ho, hP⟩ := h
  have hjl := (List.getElem?_eq_some_iff.mp hj).1
  have hp := atI_past hj
  refine .seq (.ifB (.test (.eqS (.ixT (.var rfl) .int rfl) .str)) (fun hx => ?_) (fun hx => .nil ?_))
  · unfold dueB at hP
    rw [if_pos (of_decide_eq_true hx)] at hP
    refine .seq (.ifS (EvT.viewB (i := 0) rfl hF h0 gF0 (fun G x hG r => box_view hG r) (EvB.evt (.test (.eqI (.dget (.var rfl) .str rfl) .int)) ?_)))
    rw [← hF]
    split
    · rename_i hc
      have hc := of_decide_eq_true hc
      rw [if_pos (by omega)] at hP
      refine .ret (.addG (j := 0) rfl (.evf (.call (.cons .str (.cons (.lst .nil (by rw [sizeLine_eq]; simp)) .nil)) ⟨_, _, rfl, rfl⟩) ?_))
      rw [hF]
      exact hP v
    · rename_i hc
      have hc : ¬ j = 0 := fun z => hc (decide_eq_true (by omega))
      rw [if_neg hc] at hP
      refine .nil (.seq (.dputS (EvF.viewB (i := 0) rfl hF h0 gF0 (fun G x hG r => box_view hG r) (.evf (.sub (.dget (.var rfl) .str rfl) .int) ⟨.i _, rfl, _, upd_same, by simp, ?_⟩)) (.unG (.var rfl))))
      rw [upd_upd]
      refine .ret (.addG (j := 0) rfl (.evf (.tup (.cons .str (.cons .non .nil)) (by rw [sizeLine_eq]; simp)) ?_))
      have z := hP v
      rw [show ((j - 1 : Nat) : Int) = (j : Int) - 1 by omega] at z
      exact z
  refine .seq (.ifB (.test (.eqS (.ixT (.var rfl) .int rfl) .str)) (fun hx2 => ?_) (fun hx2 => .nil ?_))
  · unfold dueB at hP
    rw [if_neg (of_decide_eq_false hx), if_pos (of_decide_eq_true hx2)] at hP
    refine .seq (.ifS (EvT.viewB (i := 0) rfl hF h0 gF0 (fun G x hG r => box_view hG r) (EvB.evt (.test (.eqI (.add (.dget (.var rfl) .str rfl) .int) (.len (.dget (.var rfl) .str rfl)))) ?_)))
    rw [← hF, List.length_map]
    split
    · rename_i hc
      have hc := of_decide_eq_true hc
      rw [if_pos (by omega)] at hP
      refine .ret (.addG (j := 0) rfl (.evf (.call (.cons .str (.cons (.lst .nil (by rw [sizeLine_eq]; simp)) .nil)) ⟨_, _, rfl, rfl⟩) ?_))
      rw [hF]
      exact hP v
    · rename_i hc
      have hc : ¬ j + 1 = past.length := fun z => hc (decide_eq_true (by omega))
      rw [if_neg hc] at hP
      refine .nil (.seq (.dputS (EvF.viewB (i := 0) rfl hF h0 gF0 (fun G x hG r => box_view hG r) (.evf (.add (.dget (.var rfl) .str rfl) .int) ⟨.i _, rfl, _, upd_same, by simp, ?_⟩)) (.unG (.var rfl))))
      rw [upd_upd]
      exact .ret (.addG (j := 0) rfl (.evf (.tup (.cons .str (.cons .non .nil)) (by rw [sizeLine_eq]; simp)) (hP v)))
  unfold dueB at hP
  rw [if_neg (of_decide_eq_false hx), if_neg (of_decide_eq_false hx2)] at hP
  refine .seq (.tup3 (EvF.viewB (i := 0) rfl hF h0 gF0 (fun G x hG r => box_view hG r) (.evf (.call (.cons (.var rfl) (.cons (.ixT (.var rfl) .int rfl) .nil)) ⟨k, r, past, j, log, s, ops, rfl, hp, hW, k0, k1, hl, ho, rfl⟩) ⟨nd_rch, _, _, _, rfl, ?_⟩)))
  rw [← hF]
  generalize hq : rch k r log s ops 0 = q at hP ⊢
  obtain ⟨er, log', s'⟩ := q
  refine .seq (.ifB (.test (.notNone (.var rfl) .non)) (fun h => ?_) (fun h => .nil ?_))
  · rw [isN_wrD] at h
    cases er with
    | none => cases h
    | some e =>
      refine .ret (.addG (j := 0) rfl (.evf (.var rfl) ?_))
      rw [hF]
      exact hP v
  rw [isN_wrD] at h
  cases er with
  | some e => cases h
  | none =>
    refine .seq (RnF.mono (R := P) (N := fun ss' F' => ∃ v', ss' = [some (.gh (.m b) v' (pastD (if ops = [] then past else past.take (j + 1) ++ [(log', s')]))), some (deedD x ops), some .n, some (.l (log'.map DV.i)), some s'.D] ∧ F' = upd F0 b (boxO k r v' ((if ops = [] then j else j + 1 : Nat) : Int)))
      (.ifB (.test (.neNil (.ixT (.var rfl) .int rfl) (.lst .nil (by rw [sizeLine_eq]; simp)))) (fun hn => .dropG (j := 0) rfl (.call (.eva (.cons (.var rfl) (.cons (.var rfl) (.cons (.var rfl) .nil))) ⟨b, v, F0, k, r, past, log', s', j, rfl, hF, h0, gF0, hjl, hz, fun v' => ⟨_, _, _, rfl, v', ?_, ?_⟩⟩))) (fun hn => .nil ⟨v, ?_, ?_⟩)) (fun ss' F1 ⟨v', e1, e2⟩ => ?_) (fun _ _ z => z))
    · have hne : ¬ ops = [] := fun z => by rw [z] at hn; cases hn
      rw [if_neg hne]
      rfl
    · have hne : ¬ ops = [] := fun z => by rw [z] at hn; cases hn
      rw [if_neg hne]
      rfl
    · have hne : ops = [] := by
        cases ops with
        | nil => rfl
        | cons y ys => cases hn
      rw [if_pos hne]
      rfl
    · have hne : ops = [] := by
        cases ops with
        | nil => rfl
        | cons y ys => cases hn
      rw [if_pos hne]
      exact hF
    subst e1 e2
    refine .seq (.ifB (.test (.eqS (.ixT (.var rfl) .int rfl) .str)) (fun hd => .ret (.addG (j := 0) rfl (.evf (.tup (.cons .str (.cons .non .nil)) (by rw [sizeLine_eq]; simp)) ?_))) (fun hd => .nil (.ret (.addG (j := 0) rfl (.evf (.tup (.cons .str (.cons (.lenI (.ixT (.var rfl) .int rfl)) .nil)) (by rw [sizeLine_eq]; simp)) ?_)))))
    · have z := hP v'
      rw [if_pos (of_decide_eq_true hd)] at z
      exact z
    · have z := hP v'
      rw [if_neg (of_decide_eq_false hd)] at z
      exact z

end
end Lay
end
section
set_option Elab.async false
set_option linter.all false
set_option autoImplicit false
set_option maxRecDepth 100000
set_option maxHeartbeats 4000000
namespace Lay
open PySem PySem.Spec PyProof.Rows L2


def px_lattempts (KK : PySem.W.Frag) : PhX := fun ds F P PE => ∃ d A D ops, ds = [.m d, .l (ops.map DV.i)] ∧ (ops : List Int).length ≤ 9 ∧ DkP KK F d A D ∧ DkW D ∧ ∀ F' A', DkP KK F' d A' (att D ops).1 → (∀ e, (att D ops).2 = some e → PE e.1 e.2 F') ∧ ((att D ops).2 = none → P (.i ops.length) F')

theorem len_is0 {xs : List Int} (h : xs.length = 0) : xs = [] := match xs, h with
  | [], _ => rfl
theorem len_is1 {xs : List Int} (h : xs.length = 1) : ∃ a0, xs = [a0] := match xs, h with
  | [a0], _ => ⟨a0, rfl⟩
theorem len_is2 {xs : List Int} (h : xs.length = 2) : ∃ a0 a1, xs = [a0, a1] := match xs, h with
  | [a0, a1], _ => ⟨a0, a1, rfl⟩
theorem len_is3 {xs : List Int} (h : xs.length = 3) : ∃ a0 a1 a2, xs = [a0, a1, a2] := match xs, h with
  | [a0, a1, a2], _ => ⟨a0, a1, a2, rfl⟩
theorem len_is4 {xs : List Int} (h : xs.length = 4) : ∃ a0 a1 a2 a3, xs = [a0, a1, a2, a3] := match xs, h with
  | [a0, a1, a2, a3], _ => ⟨a0, a1, a2, a3, rfl⟩
theorem len_is5 {xs : List Int} (h : xs.length = 5) : ∃ a0 a1 a2 a3 a4, xs = [a0, a1, a2, a3, a4] := match xs, h with
  | [a0, a1, a2, a3, a4], _ => ⟨a0, a1, a2, a3, a4, rfl⟩
theorem len_is6 {xs : List Int} (h : xs.length = 6) : ∃ a0 a1 a2 a3 a4 a5, xs = [a0, a1, a2, a3, a4, a5] := match xs, h with
  | [a0, a1, a2, a3, a4, a5], _ => ⟨a0, a1, a2, a3, a4, a5, rfl⟩
theorem len_is7 {xs : List Int} (h : xs.length = 7) : ∃ a0 a1 a2 a3 a4 a5 a6, xs = [a0, a1, a2, a3, a4, a5, a6] := match xs, h with
  | [a0, a1, a2, a3, a4, a5, a6], _ => ⟨a0, a1, a2, a3, a4, a5, a6, rfl⟩
theorem len_is8 {xs : List Int} (h : xs.length = 8) : ∃ a0 a1 a2 a3 a4 a5 a6 a7, xs = [a0, a1, a2, a3, a4, a5, a6, a7] := match xs, h with
  | [a0, a1, a2, a3, a4, a5, a6, a7], _ => ⟨a0, a1, a2, a3, a4, a5, a6, a7, rfl⟩
theorem len_is9 {xs : List Int} (h : xs.length = 9) : ∃ a0 a1 a2 a3 a4 a5 a6 a7 a8, xs = [a0, a1, a2, a3, a4, a5, a6, a7, a8] := match xs, h with
  | [a0, a1, a2, a3, a4, a5, a6, a7, a8], _ => ⟨a0, a1, a2, a3, a4, a5, a6, a7, a8, rfl⟩
section
variable {w : World} {K : PySem.W.Frag} {mg : Str → Option Value} {base : Heap}

theorem okx_ulaw_attempts (T : TX K mg) : FnR PW w K mg base (L2.CX PW w) 21 (gA "_law_attempts" K) (PDX K (px_lattempts K)) := by
  obtain ⟨fd, F⟩ := f_ulaw_attempts T
  refine fnX_of F n_ulaw_attempts (F.bindsN fun _ _ _ _ _ _ us hl => match us, hl with | [_, _], _ => rfl) (fun ds F P PE ⟨_, _, _, _, e, _⟩ => by rw [e]; rfl) fun cdv A outer s H E hr => ⟨_,
    (pss_cons (ps_if (pt_cmpR op_eq (pe_callB call_len_seq (by rfl) (b_len T) boot_len' (pa_cons (pv 1) pa_nil)) pe_int (nomark _)) (pss_one (ps_ret (pe_methE0 (pv 0) (c_Desk T) (m_Desk_attempt T) (okx_Desk_attempt T) (hr.mono (by decide)) (atX (takes_of rfl rfl rfl rfl))))) pss_nil)
      (pss_cons (ps_if (pt_cmpR op_eq (pe_callB call_len_seq (by rfl) (b_len T) boot_len' (pa_cons (pv 1) pa_nil)) pe_int (nomark _)) (pss_one (ps_ret (pe_methE (pv 0) (c_Desk T) (m_Desk_attempt T) (okx_Desk_attempt T) (hr.mono (by decide)) (atX (takes_of rfl rfl rfl rfl)) (pa_cons (pe_ix ix_list (pv 1) pe_int (fun _ _ => rfl)) pa_nil)))) pss_nil)
      (pss_cons (ps_if (pt_cmpR op_eq (pe_callB call_len_seq (by rfl) (b_len T) boot_len' (pa_cons (pv 1) pa_nil)) pe_int (nomark _)) (pss_one (ps_ret (pe_methE (pv 0) (c_Desk T) (m_Desk_attempt T) (okx_Desk_attempt T) (hr.mono (by decide)) (atX (takes_of rfl rfl rfl rfl)) (pa_cons (pe_ix ix_list (pv 1) pe_int (fun _ _ => rfl)) (pa_cons (pe_ix ix_list (pv 1) pe_int (fun _ _ => rfl)) pa_nil))))) pss_nil)
      (pss_cons (ps_if (pt_cmpR op_eq (pe_callB call_len_seq (by rfl) (b_len T) boot_len' (pa_cons (pv 1) pa_nil)) pe_int (nomark _)) (pss_one (ps_ret (pe_methE (pv 0) (c_Desk T) (m_Desk_attempt T) (okx_Desk_attempt T) (hr.mono (by decide)) (atX (takes_of rfl rfl rfl rfl)) (pa_cons (pe_ix ix_list (pv 1) pe_int (fun _ _ => rfl)) (pa_cons (pe_ix ix_list (pv 1) pe_int (fun _ _ => rfl)) (pa_cons (pe_ix ix_list (pv 1) pe_int (fun _ _ => rfl)) pa_nil)))))) pss_nil)
      (pss_cons (ps_if (pt_cmpR op_eq (pe_callB call_len_seq (by rfl) (b_len T) boot_len' (pa_cons (pv 1) pa_nil)) pe_int (nomark _)) (pss_one (ps_ret (pe_methE (pv 0) (c_Desk T) (m_Desk_attempt T) (okx_Desk_attempt T) (hr.mono (by decide)) (atX (takes_of rfl rfl rfl rfl)) (pa_cons (pe_ix ix_list (pv 1) pe_int (fun _ _ => rfl)) (pa_cons (pe_ix ix_list (pv 1) pe_int (fun _ _ => rfl)) (pa_cons (pe_ix ix_list (pv 1) pe_int (fun _ _ => rfl)) (pa_cons (pe_ix ix_list (pv 1) pe_int (fun _ _ => rfl)) pa_nil))))))) pss_nil)
      (pss_cons (ps_if (pt_cmpR op_eq (pe_callB call_len_seq (by rfl) (b_len T) boot_len' (pa_cons (pv 1) pa_nil)) pe_int (nomark _)) (pss_one (ps_ret (pe_methE (pv 0) (c_Desk T) (m_Desk_attempt T) (okx_Desk_attempt T) (hr.mono (by decide)) (atX (takes_of rfl rfl rfl rfl)) (pa_cons (pe_ix ix_list (pv 1) pe_int (fun _ _ => rfl)) (pa_cons (pe_ix ix_list (pv 1) pe_int (fun _ _ => rfl)) (pa_cons (pe_ix ix_list (pv 1) pe_int (fun _ _ => rfl)) (pa_cons (pe_ix ix_list (pv 1) pe_int (fun _ _ => rfl)) (pa_cons (pe_ix ix_list (pv 1) pe_int (fun _ _ => rfl)) pa_nil)))))))) pss_nil)
      (pss_cons (ps_if (pt_cmpR op_eq (pe_callB call_len_seq (by rfl) (b_len T) boot_len' (pa_cons (pv 1) pa_nil)) pe_int (nomark _)) (pss_one (ps_ret (pe_methE (pv 0) (c_Desk T) (m_Desk_attempt T) (okx_Desk_attempt T) (hr.mono (by decide)) (atX (takes_of rfl rfl rfl rfl)) (pa_cons (pe_ix ix_list (pv 1) pe_int (fun _ _ => rfl)) (pa_cons (pe_ix ix_list (pv 1) pe_int (fun _ _ => rfl)) (pa_cons (pe_ix ix_list (pv 1) pe_int (fun _ _ => rfl)) (pa_cons (pe_ix ix_list (pv 1) pe_int (fun _ _ => rfl)) (pa_cons (pe_ix ix_list (pv 1) pe_int (fun _ _ => rfl)) (pa_cons (pe_ix ix_list (pv 1) pe_int (fun _ _ => rfl)) pa_nil))))))))) pss_nil)
      (pss_cons (ps_if (pt_cmpR op_eq (pe_callB call_len_seq (by rfl) (b_len T) boot_len' (pa_cons (pv 1) pa_nil)) pe_int (nomark _)) (pss_one (ps_ret (pe_methE (pv 0) (c_Desk T) (m_Desk_attempt T) (okx_Desk_attempt T) (hr.mono (by decide)) (atX (takes_of rfl rfl rfl rfl)) (pa_cons (pe_ix ix_list (pv 1) pe_int (fun _ _ => rfl)) (pa_cons (pe_ix ix_list (pv 1) pe_int (fun _ _ => rfl)) (pa_cons (pe_ix ix_list (pv 1) pe_int (fun _ _ => rfl)) (pa_cons (pe_ix ix_list (pv 1) pe_int (fun _ _ => rfl)) (pa_cons (pe_ix ix_list (pv 1) pe_int (fun _ _ => rfl)) (pa_cons (pe_ix ix_list (pv 1) pe_int (fun _ _ => rfl)) (pa_cons (pe_ix ix_list (pv 1) pe_int (fun _ _ => rfl)) pa_nil)))))))))) pss_nil)
      (pss_cons (ps_if (pt_cmpR op_eq (pe_callB call_len_seq (by rfl) (b_len T) boot_len' (pa_cons (pv 1) pa_nil)) pe_int (nomark _)) (pss_one (ps_ret (pe_methE (pv 0) (c_Desk T) (m_Desk_attempt T) (okx_Desk_attempt T) (hr.mono (by decide)) (atX (takes_of rfl rfl rfl rfl)) (pa_cons (pe_ix ix_list (pv 1) pe_int (fun _ _ => rfl)) (pa_cons (pe_ix ix_list (pv 1) pe_int (fun _ _ => rfl)) (pa_cons (pe_ix ix_list (pv 1) pe_int (fun _ _ => rfl)) (pa_cons (pe_ix ix_list (pv 1) pe_int (fun _ _ => rfl)) (pa_cons (pe_ix ix_list (pv 1) pe_int (fun _ _ => rfl)) (pa_cons (pe_ix ix_list (pv 1) pe_int (fun _ _ => rfl)) (pa_cons (pe_ix ix_list (pv 1) pe_int (fun _ _ => rfl)) (pa_cons (pe_ix ix_list (pv 1) pe_int (fun _ _ => rfl)) pa_nil))))))))))) pss_nil)
      (pss_one (ps_ret (pe_methE (pv 0) (c_Desk T) (m_Desk_attempt T) (okx_Desk_attempt T) (hr.mono (by decide)) (atX (takes_of rfl rfl rfl rfl)) (pa_cons (pe_ix ix_list (pv 1) pe_int (fun _ _ => rfl)) (pa_cons (pe_ix ix_list (pv 1) pe_int (fun _ _ => rfl)) (pa_cons (pe_ix ix_list (pv 1) pe_int (fun _ _ => rfl)) (pa_cons (pe_ix ix_list (pv 1) pe_int (fun _ _ => rfl)) (pa_cons (pe_ix ix_list (pv 1) pe_int (fun _ _ => rfl)) (pa_cons (pe_ix ix_list (pv 1) pe_int (fun _ _ => rfl)) (pa_cons (pe_ix ix_list (pv 1) pe_int (fun _ _ => rfl)) (pa_cons (pe_ix ix_list (pv 1) pe_int (fun _ _ => rfl)) (pa_cons (pe_ix ix_list (pv 1) pe_int (fun _ _ => rfl)) pa_nil))))))))))))))))))))), fun ds F P PE h gF => ?_⟩
  obtain ⟨d, A, D, ops, rfl, hl, hD, hw, hN⟩ := h
  refine .seq (.ifB (.test (.eqI (.lenI (.var rfl)) .int)) (fun h => ?_) (fun h0 => .nil ?_))
  · have hn : ops.length = 0 := by
      have := of_decide_eq_true h
      omega
    obtain rfl := len_is0 hn
    exact .ret (.meth (.var rfl) hD.od rfl (.eva .nil ⟨d, A, D, [], rfl, by simp, hD, hw, hN⟩))
  refine .seq (.ifB (.test (.eqI (.lenI (.var rfl)) .int)) (fun h => ?_) (fun h1 => .nil ?_))
  · have hn : ops.length = 1 := by
      have := of_decide_eq_true h
      omega
    obtain ⟨a0, rfl⟩ := len_is1 hn
    exact .ret (.meth (.var rfl) hD.od rfl (.eva (.cons (.ixL (.var rfl) .int rfl) .nil) ⟨d, A, D, [a0], rfl, by simp, hD, hw, hN⟩))
  refine .seq (.ifB (.test (.eqI (.lenI (.var rfl)) .int)) (fun h => ?_) (fun h2 => .nil ?_))
  · have hn : ops.length = 2 := by
      have := of_decide_eq_true h
      omega
    obtain ⟨a0, a1, rfl⟩ := len_is2 hn
    exact .ret (.meth (.var rfl) hD.od rfl (.eva (.cons (.ixL (.var rfl) .int rfl) (.cons (.ixL (.var rfl) .int rfl) .nil)) ⟨d, A, D, [a0, a1], rfl, by simp, hD, hw, hN⟩))
  refine .seq (.ifB (.test (.eqI (.lenI (.var rfl)) .int)) (fun h => ?_) (fun h3 => .nil ?_))
  · have hn : ops.length = 3 := by
      have := of_decide_eq_true h
      omega
    obtain ⟨a0, a1, a2, rfl⟩ := len_is3 hn
    exact .ret (.meth (.var rfl) hD.od rfl (.eva (.cons (.ixL (.var rfl) .int rfl) (.cons (.ixL (.var rfl) .int rfl) (.cons (.ixL (.var rfl) .int rfl) .nil))) ⟨d, A, D, [a0, a1, a2], rfl, by simp, hD, hw, hN⟩))
  refine .seq (.ifB (.test (.eqI (.lenI (.var rfl)) .int)) (fun h => ?_) (fun h4 => .nil ?_))
  · have hn : ops.length = 4 := by
      have := of_decide_eq_true h
      omega
    obtain ⟨a0, a1, a2, a3, rfl⟩ := len_is4 hn
    exact .ret (.meth (.var rfl) hD.od rfl (.eva (.cons (.ixL (.var rfl) .int rfl) (.cons (.ixL (.var rfl) .int rfl) (.cons (.ixL (.var rfl) .int rfl) (.cons (.ixL (.var rfl) .int rfl) .nil)))) ⟨d, A, D, [a0, a1, a2, a3], rfl, by simp, hD, hw, hN⟩))
  refine .seq (.ifB (.test (.eqI (.lenI (.var rfl)) .int)) (fun h => ?_) (fun h5 => .nil ?_))
  · have hn : ops.length = 5 := by
      have := of_decide_eq_true h
      omega
    obtain ⟨a0, a1, a2, a3, a4, rfl⟩ := len_is5 hn
    exact .ret (.meth (.var rfl) hD.od rfl (.eva (.cons (.ixL (.var rfl) .int rfl) (.cons (.ixL (.var rfl) .int rfl) (.cons (.ixL (.var rfl) .int rfl) (.cons (.ixL (.var rfl) .int rfl) (.cons (.ixL (.var rfl) .int rfl) .nil))))) ⟨d, A, D, [a0, a1, a2, a3, a4], rfl, by simp, hD, hw, hN⟩))
  refine .seq (.ifB (.test (.eqI (.lenI (.var rfl)) .int)) (fun h => ?_) (fun h6 => .nil ?_))
  · have hn : ops.length = 6 := by
      have := of_decide_eq_true h
      omega
    obtain ⟨a0, a1, a2, a3, a4, a5, rfl⟩ := len_is6 hn
    exact .ret (.meth (.var rfl) hD.od rfl (.eva (.cons (.ixL (.var rfl) .int rfl) (.cons (.ixL (.var rfl) .int rfl) (.cons (.ixL (.var rfl) .int rfl) (.cons (.ixL (.var rfl) .int rfl) (.cons (.ixL (.var rfl) .int rfl) (.cons (.ixL (.var rfl) .int rfl) .nil)))))) ⟨d, A, D, [a0, a1, a2, a3, a4, a5], rfl, by simp, hD, hw, hN⟩))
  refine .seq (.ifB (.test (.eqI (.lenI (.var rfl)) .int)) (fun h => ?_) (fun h7 => .nil ?_))
  · have hn : ops.length = 7 := by
      have := of_decide_eq_true h
      omega
    obtain ⟨a0, a1, a2, a3, a4, a5, a6, rfl⟩ := len_is7 hn
    exact .ret (.meth (.var rfl) hD.od rfl (.eva (.cons (.ixL (.var rfl) .int rfl) (.cons (.ixL (.var rfl) .int rfl) (.cons (.ixL (.var rfl) .int rfl) (.cons (.ixL (.var rfl) .int rfl) (.cons (.ixL (.var rfl) .int rfl) (.cons (.ixL (.var rfl) .int rfl) (.cons (.ixL (.var rfl) .int rfl) .nil))))))) ⟨d, A, D, [a0, a1, a2, a3, a4, a5, a6], rfl, by simp, hD, hw, hN⟩))
  refine .seq (.ifB (.test (.eqI (.lenI (.var rfl)) .int)) (fun h => ?_) (fun h8 => .nil ?_))
  · have hn : ops.length = 8 := by
      have := of_decide_eq_true h
      omega
    obtain ⟨a0, a1, a2, a3, a4, a5, a6, a7, rfl⟩ := len_is8 hn
    exact .ret (.meth (.var rfl) hD.od rfl (.eva (.cons (.ixL (.var rfl) .int rfl) (.cons (.ixL (.var rfl) .int rfl) (.cons (.ixL (.var rfl) .int rfl) (.cons (.ixL (.var rfl) .int rfl) (.cons (.ixL (.var rfl) .int rfl) (.cons (.ixL (.var rfl) .int rfl) (.cons (.ixL (.var rfl) .int rfl) (.cons (.ixL (.var rfl) .int rfl) .nil)))))))) ⟨d, A, D, [a0, a1, a2, a3, a4, a5, a6, a7], rfl, by simp, hD, hw, hN⟩))
  have hn : ops.length = 9 := by
    simp only [decide_eq_false_iff_not] at h0 h1 h2 h3 h4 h5 h6 h7 h8
    omega
  obtain ⟨a0, a1, a2, a3, a4, a5, a6, a7, a8, rfl⟩ := len_is9 hn
  exact .ret (.meth (.var rfl) hD.od rfl (.eva (.cons (.ixL (.var rfl) .int rfl) (.cons (.ixL (.var rfl) .int rfl) (.cons (.ixL (.var rfl) .int rfl) (.cons (.ixL (.var rfl) .int rfl) (.cons (.ixL (.var rfl) .int rfl) (.cons (.ixL (.var rfl) .int rfl) (.cons (.ixL (.var rfl) .int rfl) (.cons (.ixL (.var rfl) .int rfl) (.cons (.ixL (.var rfl) .int rfl) .nil))))))))) ⟨d, A, D, [a0, a1, a2, a3, a4, a5, a6, a7, a8], rfl, by simp, hD, hw, hN⟩))

end
end Lay
end
section
set_option Elab.async false
set_option linter.all false
set_option autoImplicit false
set_option maxRecDepth 100000
set_option maxHeartbeats 4000000
/-! the plain law, second part: the desk's steps are the box's -/
namespace Lay
open PySem PySem.Spec PyProof.Rows L2
def fv (fs : List (Str × V)) (f : Str) : DV := up ((fs.lookup f).getD .non)
/-- the fields that the law's refusal shows -/
def refF (x : Str) (fs : List (Str × V)) : List DV :=
  if x = "BadOperation" ∨ x = "Illegal" then [fv fs "operation", fv fs "index"] else if x = "Refused" then [fv fs "operation", fv fs "index", fv fs "refusing"]
  else if x = "Full" then [fv fs "capacity"] else []
def refE (e : Str × List (Str × V)) : Str × List DV := (e.1, refF e.1 e.2)
theorem jd_wrO {D : Dk} {op ix : Int} (hn : D.s.n = D.n) : (jd D op ix).map refE = wrO D.k D.cap D.s D.log.length op ix := by
  unfold jd wrO
  rw [hn]
  by_cases h1 : op = 0 ∨ D.n < iabs op
  · rw [if_pos h1, if_pos h1]; rfl
  rw [if_neg h1, if_neg h1]
  by_cases h2 : op ≠ opOn D.s (iabs op)
  · rw [if_pos h2, if_pos h2]; rfl
  rw [if_neg h2, if_neg h2]
  by_cases h3 : refT D.s op D.k ≠ ""
  · rw [if_pos h3, if_pos h3]; rfl
  rw [if_neg h3, if_neg h3]
  by_cases h4 : D.cap ≤ D.log.length
  · rw [if_pos h4, if_pos h4]; rfl
  rw [if_neg h4, if_neg h4]; rfl
theorem perf_rch : ∀ (ops : List Int) (D : Dk) (i : Nat), D.s.n = D.n → (perf D ops i).2.map refE = (rch D.k D.cap D.log D.s ops i).1 ∧ (perf D ops i).1.log = (rch D.k D.cap D.log D.s ops i).2.1 ∧ (perf D ops i).1.s = (rch D.k D.cap D.log D.s ops i).2.2
  | [], D, i, hn => ⟨rfl, rfl, rfl⟩
  | op :: ops, D, i, hn => by
    have h := jd_wrO (op := op) (ix := i) hn
    rw [rch_cons, ← h]
    unfold perf
    cases e : jd D op i with
    | some z => exact ⟨rfl, rfl, rfl⟩
    | none => exact perf_rch ops (wr D op) (i + 1) hn
/-- a run of operations, blindly -/
def runS (s : St) (ops : List Int) : St := ops.foldl aft s
theorem runs_runS {s s' : St} {ops : List Int} (h : Runs s ops s') : s' = runS s ops := by
  induction h with
  | nil => rfl
  | cons _ _ ih => exact ih
/-- what rch writes is legal, and it is a run -/
theorem rch_runs {k r : Int} : ∀ (ops log : List Int) (s : St) (i : Int), (rch k r log s ops i).1 = none → Runs s ops (rch k r log s ops i).2.2 ∧ (rch k r log s ops i).2.1 = log ++ ops
  | [], log, s, i, _ => ⟨.nil _, (List.append_nil _).symm⟩
  | op :: ops, log, s, i, h => by
    rw [rch_cons] at h ⊢
    cases e : wrO k r s log.length op i with
    | some z => rw [e] at h; cases h
    | none =>
      rw [e] at h
      obtain ⟨h1, h2⟩ := rch_runs ops (log ++ [op]) (aft s op) (i + 1) h
      exact ⟨.cons (wrO_leg e).1 h1, by rw [h2, List.append_assoc]; rfl⟩
/-- how far a row gets -/
theorem rch_log {k r : Int} : ∀ (ops log : List Int) (s : St) (i : Int), ∃ m, m ≤ ops.length ∧ (rch k r log s ops i).2.1 = log ++ ops.take m ∧ Runs s (ops.take m) (rch k r log s ops i).2.2
  | [], log, s, i => ⟨0, Nat.le_refl _, (List.append_nil _).symm, .nil _⟩
  | op :: ops, log, s, i => by
    rw [rch_cons]
    cases e : wrO k r s log.length op i with
    | some z => exact ⟨0, Nat.zero_le _, (List.append_nil _).symm, .nil _⟩
    | none =>
      obtain ⟨m, h1, h2, h3⟩ := rch_log (k := k) (r := r) ops (log ++ [op]) (aft s op) (i + 1)
      exact ⟨m + 1, Nat.succ_le_succ h1, by rw [List.take_succ_cons]; exact h2.trans (by rw [List.append_assoc]; rfl), .cons (wrO_leg e).1 h3⟩
theorem rch_cap {k r : Int} : ∀ (ops log : List Int) (s : St) (i : Int), (log.length : Int) ≤ r → ((rch k r log s ops i).2.1.length : Int) ≤ r
  | [], log, s, i, h => h
  | op :: ops, log, s, i, h => by
    rw [rch_cons]
    cases e : wrO k r s log.length op i with
    | some z => exact h
    | none => exact rch_cap ops (log ++ [op]) (aft s op) (i + 1) (by have := (wrO_leg e).2.2; rw [List.length_append, List.length_singleton]; omega)
/-! ### the past -/
abbrev preF (steps : List (List Int)) (i : Nat) : List Int := (steps.take i).flatten
def atP (n : Int) (steps : List (List Int)) (i : Nat) : List Int × St := (preF steps i, runS (St0 n) (preF steps i))
def pastP (n : Int) (steps : List (List Int)) : List (List Int × St) := (List.range (steps.length + 1)).map (atP n steps)
structure Inv (n k r : Int) (D : Dk) (steps : List (List Int)) (j : Nat) : Prop where
  n0 : 0 ≤ n
  n1 : n ≤ 60
  k0 : 0 ≤ k
  k1 : k ≤ 3
  r0 : 1 ≤ r
  r1 : r ≤ 2000
  dn : D.n = n
  dk : D.k = k
  dc : D.cap = r
  jl : j ≤ steps.length
  lg : D.log = preF steps j
  st : D.s = runS (St0 n) (preF steps j)
  ss : D.starts = (List.range j).map fun i => ((preF steps i).length : Int)
  un : D.und = (steps.drop j).reverse
  ne : ∀ x, x ∈ steps → x ≠ []
  rn : Runs (St0 n) steps.flatten (runS (St0 n) steps.flatten)
  cp : (steps.flatten.length : Int) ≤ r
theorem len_flat : ∀ steps : List (List Int), (∀ x, x ∈ steps → x ≠ []) → steps.length ≤ steps.flatten.length
  | [], _ => Nat.le_refl _
  | x :: xs, h => by
    have h1 := len_flat xs fun y hy => h y (List.mem_cons_of_mem _ hy)
    have h2 := h x List.mem_cons_self
    have h3 : 1 ≤ x.length := by
      cases x with
      | nil => exact absurd rfl h2
      | cons y ys => rw [List.length_cons]; omega
    rw [List.flatten_cons, List.length_append, List.length_cons]
    omega
theorem flat_split (steps : List (List Int)) (i : Nat) : steps.flatten = preF steps i ++ (steps.drop i).flatten := by
  unfold preF
  rw [← List.flatten_append, List.take_append_drop]
theorem Inv.pre {n k r : Int} {D : Dk} {steps : List (List Int)} {j : Nat} (I : Inv n k r D steps j) (i : Nat) : Runs (St0 n) (preF steps i) (runS (St0 n) (preF steps i)) ∧ (preF steps i).length ≤ steps.flatten.length := by
  have h := I.rn
  rw [flat_split steps i] at h
  obtain ⟨s1, h1, _⟩ := h.split
  refine ⟨runs_runS h1 ▸ h1, ?_⟩
  rw [flat_split steps i, List.length_append]
  omega
theorem wf_St0 {n : Int} (h0 : 0 ≤ n) (h1 : n ≤ 60) : Wf (St0 n) := wf0 h0 h1
theorem Inv.wf {n k r : Int} {D : Dk} {steps : List (List Int)} {j : Nat} (I : Inv n k r D steps j) (i : Nat) : Wf (runS (St0 n) (preF steps i)) ∧ (runS (St0 n) (preF steps i)).n = n := (I.pre i).1.wf (wf_St0 I.n0 I.n1)
theorem Inv.dkw {n k r : Int} {D : Dk} {steps : List (List Int)} {j : Nat} (I : Inv n k r D steps j) : DkW D := by
  have h1 := len_flat steps I.ne
  have h2 := (I.pre j).2
  have h3 := I.cp
  have h4 := I.r1
  refine ⟨I.dn ▸ I.n0, I.dn ▸ I.n1, ?_, ?_, I.dc ▸ I.r0, I.dc ▸ I.r1, I.dk ▸ I.k0, I.dk ▸ I.k1, ?_, ?_, ?_⟩
  · rw [I.st, (I.wf j).2, I.dn]
  · rw [I.st]; exact (I.wf j).1
  · rw [I.lg]; omega
  · rw [I.ss, List.length_map, List.length_range]
    have := I.jl
    omega
  · rw [I.un, List.length_reverse, List.length_drop]
    omega
theorem pastP_get {n : Int} {steps : List (List Int)} {i : Nat} (h : i ≤ steps.length) : (pastP n steps)[i]? = some (atP n steps i) := by
  unfold pastP
  rw [List.getElem?_map, List.getElem?_range (by omega)]
  rfl
theorem pastP_len {n : Int} {steps : List (List Int)} : (pastP n steps).length = steps.length + 1 := by
  unfold pastP
  rw [List.length_map, List.length_range]
theorem pastP_add {n : Int} {steps : List (List Int)} {j : Nat} (hj : j ≤ steps.length) (row : List Int) : pastP n (steps.take j ++ [row]) = (pastP n steps).take (j + 1) ++ [(preF steps j ++ row, runS (St0 n) (preF steps j ++ row))] := by
  have hl : (steps.take j).length = j := by rw [List.length_take]; omega
  refine List.ext_getElem? fun i => ?_
  by_cases h : i ≤ j
  · rw [pastP_get (by rw [List.length_append, hl, List.length_singleton]; omega), List.getElem?_append_left (by rw [List.length_take, pastP_len]; omega), List.getElem?_take, if_pos (by omega), pastP_get (by omega)]
    have e : (steps.take j ++ [row]).take i = steps.take i := by
      rw [List.take_append_of_le_length (by omega), List.take_take, Nat.min_eq_left h]
    unfold atP preF
    rw [e]
  · by_cases h2 : i = j + 1
    · subst h2
      rw [pastP_get (by rw [List.length_append, hl, List.length_singleton]; omega), List.getElem?_append_right (by rw [List.length_take, pastP_len]; omega), List.length_take, pastP_len]
      have e : (steps.take j ++ [row]).take (j + 1) = steps.take j ++ [row] := by
        rw [List.take_of_length_le (by rw [List.length_append, hl, List.length_singleton]; omega)]
      have e0 : j + 1 - min (j + 1) (steps.length + 1) = 0 := by omega
      have e3 : (steps.take j ++ [row]).flatten = (steps.take j).flatten ++ row := by simp
      unfold atP preF
      rw [e0, e, e3]
      rfl
    · rw [List.getElem?_eq_none (by rw [pastP_len, List.length_append, hl, List.length_singleton]; omega), List.getElem?_eq_none (by rw [List.length_append, List.length_take, pastP_len, List.length_singleton]; omega)]
end Lay
end
section
set_option Elab.async false
set_option linter.all false
set_option autoImplicit false
set_option maxRecDepth 100000
set_option maxHeartbeats 4000000
/-! the plain law, third part: every deed keeps desk and box together -/
namespace Lay
open PySem PySem.Spec PyProof.Rows L2
section
variable {n k r : Int} {D : Dk} {steps : List (List Int)} {j : Nat}
theorem preF_succ (h : j < steps.length) : preF steps (j + 1) = preF steps j ++ steps[j] := by
  unfold preF
  rw [List.take_succ, List.getElem?_eq_getElem h, List.flatten_append]
  simp
theorem runS_app {s : St} {xs ys : List Int} : runS s (xs ++ ys) = runS (runS s xs) ys := List.foldl_append
theorem Inv.start0 (I : Inv n k r D steps j) : D.starts = [] ↔ j = 0 := by
  rw [I.ss]
  constructor
  · intro h
    have := congrArg List.length h
    simpa using this
  · intro h; subst h; rfl
theorem Inv.und0 (I : Inv n k r D steps j) : D.und = [] ↔ j = steps.length := by
  rw [I.un]
  have := I.jl
  constructor
  · intro h
    have := congrArg List.length h
    rw [List.length_reverse, List.length_drop] at this
    simp at this
    omega
  · intro h
    rw [h, List.drop_length]
    rfl
theorem Inv.undo (I : Inv n k r D steps j) {sts : List Int} {x : Int} (h : D.starts = sts ++ [x]) : 0 < j ∧ x = ((preF steps (j - 1)).length : Int) ∧ (preF steps (j - 1)).length ≤ D.log.length ∧
    Runs (St0 D.n) (D.log.take (preF steps (j - 1)).length) (runS (St0 n) (preF steps (j - 1))) ∧
    Inv n k r { D with starts := sts, und := D.und ++ [D.log.drop (preF steps (j - 1)).length], log := D.log.take (preF steps (j - 1)).length, s := runS (St0 n) (preF steps (j - 1)) } steps (j - 1) := by
  have hj := I.jl
  have h0 : j ≠ 0 := fun z => by rw [I.start0.mpr z] at h; cases sts <;> cases h
  obtain ⟨i, rfl⟩ : ∃ i, j = i + 1 := ⟨j - 1, by omega⟩
  have hs := I.ss
  rw [h, List.range_succ, List.map_append] at hs
  have hs := List.append_inj' hs rfl
  have hx : x = ((preF steps i).length : Int) := by simpa using hs.2
  have hp := preF_succ (steps := steps) (j := i) (by omega)
  have hl : D.log = preF steps i ++ steps[i] := by rw [I.lg, hp]
  have ht : D.log.take (preF steps i).length = preF steps i := by rw [hl, List.take_left]
  have hd : D.log.drop (preF steps i).length = steps[i] := by rw [hl, List.drop_left]
  rw [show i + 1 - 1 = i by omega, ht, hd]
  refine ⟨by omega, hx, by rw [hl, List.length_append]; omega, by rw [I.dn]; exact (I.pre i).1, ?_⟩
  refine ⟨I.n0, I.n1, I.k0, I.k1, I.r0, I.r1, I.dn, I.dk, I.dc, by omega, rfl, rfl, hs.1, ?_, I.ne, I.rn, I.cp⟩
  show D.und ++ [steps[i]] = _
  rw [I.un, List.drop_eq_getElem_cons (show i < steps.length by omega), List.reverse_cons]
theorem Inv.redo (I : Inv n k r D steps j) {us : List (List Int)} {xs : List Int} (h : D.und = us ++ [xs]) : j < steps.length ∧ xs.length ≤ 2000 ∧ Runs D.s xs (runS (St0 n) (preF steps (j + 1))) ∧
    Inv n k r { D with starts := D.starts ++ [(D.log.length : Int)], und := us, log := D.log ++ xs, s := runS (St0 n) (preF steps (j + 1)) } steps (j + 1) := by
  have hj := I.jl
  have h0 : j ≠ steps.length := fun z => by rw [I.und0.mpr z] at h; cases us <;> cases h
  have hjl : j < steps.length := by omega
  have hu := I.un
  rw [h, List.drop_eq_getElem_cons hjl, List.reverse_cons] at hu
  have hu := List.append_inj' hu rfl
  have hx : xs = steps[j] := by simpa using hu.2
  subst hx
  have hp := preF_succ hjl
  have hR := (I.pre (j + 1)).1
  have hz := (I.pre (j + 1)).2
  have c1 := I.cp
  have c2 := I.r1
  refine ⟨hjl, ?_, ?_, ?_⟩
  · rw [hp, List.length_append] at hz
    omega
  · rw [I.st]
    have h2 := hR
    rw [hp] at h2
    obtain ⟨s1, h3, h4⟩ := h2.split
    rw [runs_runS h3] at h4
    rw [hp]
    exact h4
  · refine ⟨I.n0, I.n1, I.k0, I.k1, I.r0, I.r1, I.dn, I.dk, I.dc, by omega, ?_, rfl, ?_, hu.1, I.ne, I.rn, I.cp⟩
    · show D.log ++ steps[j] = _
      rw [I.lg, hp]
    · show D.starts ++ [(D.log.length : Int)] = _
      rw [I.ss, I.lg, List.range_succ, List.map_append]
      rfl
theorem Inv.att (I : Inv n k r D steps j) (ops : List Int) : (att D ops).2.map refE = (rch k r (preF steps j) (runS (St0 n) (preF steps j)) ops 0).1 ∧
    ((att D ops).2 ≠ none → (att D ops).1 = D) ∧
    ((att D ops).2 = none → (rch k r (preF steps j) (runS (St0 n) (preF steps j)) ops 0).2 = (preF steps j ++ ops, runS (St0 n) (preF steps j ++ ops)) ∧ Inv n k r (att D ops).1 (if ops = [] then steps else steps.take j ++ [ops]) (if ops = [] then j else j + 1)) := by
  have hn : D.s.n = D.n := by rw [I.st, (I.wf j).2, I.dn]
  obtain ⟨h1, h2, h3⟩ := perf_rch ops D 0 hn
  rw [I.dk, I.dc, I.lg, I.st] at h1 h2 h3
  have h0 : ((0 : Nat) : Int) = 0 := rfl
  rw [h0] at h1 h2 h3
  unfold Lay.att
  cases e : (perf D ops 0).2 with
  | some z =>
    rw [e] at h1
    exact ⟨h1, fun _ => rfl, fun q => by cases q⟩
  | none =>
    rw [e] at h1
    refine ⟨h1, fun q => absurd rfl q, fun _ => ?_⟩
    obtain ⟨hR, hL⟩ := rch_runs ops (preF steps j) (runS (St0 n) (preF steps j)) 0 h1.symm
    have hS := runs_runS hR
    rw [← runS_app] at hS
    have hq : (rch k r (preF steps j) (runS (St0 n) (preF steps j)) ops 0).2 = (preF steps j ++ ops, runS (St0 n) (preF steps j ++ ops)) := Prod.ext hL hS
    refine ⟨hq, ?_⟩
    obtain ⟨lg, s', hk⟩ := perf_keep ops D 0
    have hlg : lg = preF steps j ++ ops := by rw [hk] at h2; exact h2.trans hL
    have hs' : s' = runS (St0 n) (preF steps j ++ ops) := by rw [hk] at h3; exact h3.trans hS
    show Inv n k r (cl (perf D ops 0).1 D.log.length) _ _
    rw [hk]
    have hjl := I.jl
    unfold cl
    by_cases ho : ops = []
    · rw [if_pos ho, if_pos ho]
      subst ho
      rw [List.append_nil] at hlg hs'
      have e1 : ({ D with log := lg, s := s' } : Dk) = D := by rw [hlg, hs', ← I.st, ← I.lg]
      rw [e1, if_neg (by omega)]
      exact I
    · rw [if_neg ho, if_neg ho]
      have hlen : 1 ≤ ops.length := by
        cases ops with
        | nil => exact absurd rfl ho
        | cons y ys => rw [List.length_cons]; omega
      rw [if_pos (by rw [I.lg]; show ((preF steps j).length : Int) < (lg.length : Int); rw [hlg, List.length_append]; omega)]
      have hl : (steps.take j).length = j := by rw [List.length_take]; omega
      have hpre : ∀ i, i ≤ j → preF (steps.take j ++ [ops]) i = preF steps i := fun i hi => by
        unfold preF
        rw [List.take_append_of_le_length (by omega), List.take_take, Nat.min_eq_left hi]
      have hnew : preF (steps.take j ++ [ops]) (j + 1) = preF steps j ++ ops := by
        unfold preF
        rw [List.take_of_length_le (by rw [List.length_append, hl, List.length_singleton]; omega)]
        simp
      have hflat : (steps.take j ++ [ops]).flatten = preF steps j ++ ops := by simp
      have hc := rch_cap (k := k) (r := r) ops (preF steps j) (runS (St0 n) (preF steps j)) 0 (by have h4 := (I.pre j).2; have h5 := I.cp; omega)
      rw [hL] at hc
      refine ⟨I.n0, I.n1, I.k0, I.k1, I.r0, I.r1, I.dn, I.dk, I.dc, by rw [List.length_append, hl, List.length_singleton]; omega, ?_, ?_, ?_, ?_, fun x hx => ?_, ?_, by rw [hflat]; exact hc⟩
      · rw [hnew]; exact hlg
      · rw [hnew]; exact hs'
      · show D.starts ++ [(D.log.length : Int)] = _
        have e1 : (List.range j).map (fun i => ((preF steps i).length : Int)) = (List.range j).map fun i => ((preF (steps.take j ++ [ops]) i).length : Int) := List.map_congr_left fun i hi => by rw [hpre i (by have := List.mem_range.mp hi; omega)]
        rw [I.ss, I.lg, List.range_succ, List.map_append, e1, ← hpre j (Nat.le_refl _)]
        rfl
      · show [] = _
        rw [List.drop_of_length_le (by rw [List.length_append, hl, List.length_singleton]; omega)]
        rfl
      · rcases List.mem_append.mp hx with h | h
        · exact I.ne x (List.mem_of_mem_take h)
        · rw [List.mem_singleton.mp h]; exact ho
      · rw [hflat]
        have h5 := (I.pre j).1.app hR
        rw [hS] at h5
        exact h5
end
end Lay
end
section
set_option Elab.async false
set_option linter.all false
set_option autoImplicit false
set_option maxRecDepth 100000
set_option maxHeartbeats 4000000
/-! own layer X: the exception that a suite holds, its dict in F -/
namespace Lay
open PySem PySem.Spec PyProof.Rows L2
section
variable {K : PySem.W.Frag} {te ta : TE} {ss : List (Option DV)} {F G : Hp} {P : DV → Hp → Prop} {d : Option Addr} {fs : List (Str × V)} {a C : Addr}
theorem xdict_joi (h : XDict d fs F) (dj : Disj G F) : XDict d fs (joi G F) := by
  rcases h with ⟨h1, h2⟩ | ⟨dd, h1, h2⟩
  · exact .inl ⟨h1, h2⟩
  · refine .inr ⟨dd, h1, ?_⟩
    rw [joi_r ((dj dd).resolve_right fun z => by rw [h2] at z; cases z)]
    exact h2
theorem xdict_upd {p : Addr} {o : HO} (h : XDict d fs F) (hp : F p = none) : XDict d fs (upd F p o) := by
  rcases h with ⟨h1, h2⟩ | ⟨dd, h1, h2⟩
  · exact .inl ⟨h1, h2⟩
  · exact .inr ⟨dd, h1, by rw [upd_ne fun z => by rw [z, hp] at h2; cases h2]; exact h2⟩
theorem EvF.isX {c : V} {cv : Value} {b : Bool} (ha : EvD K ta ss (.m a)) (hx : XDict d fs F) (hcv : ∀ u, RelV c u → u = cv) (hk : PySem.W.kitOne K (.ref C) cv = some b) (q : P (.b b) F) : EvF K (tCB (rIsX K a C d fs) (tCons ta (tCons (tC c) tNil))) ss F P := fun σ G o Q go => ha.at o fun x G1 g1 rx => by
  obtain rfl := rx.m_inv
  exact ⟨c, cv, b, rfl, hcv, hk, xdict_joi hx g1.dj, go _ (.b b) G1 F g1 (.b b) q⟩
theorem EvF.fldX {f : Str} {v : V} (ha : EvD K te ss (.m a)) (hx : XDict d fs F) (hf : fs.lookup f = some v) (hv : flat0 v) (q : P (up v) F) : EvF K (tFldX a d fs f te) ss F P := fun σ G o Q go => ha.at o fun x G1 g1 rx => by
  obtain rfl := rx.m_inv
  exact ⟨rfl, xdict_joi hx g1.dj, v, hf, go v (up v) G1 F g1 (Rep.up hv) q⟩
end
end Lay
end
section
set_option Elab.async false
set_option linter.all false
set_option autoImplicit false
set_option maxRecDepth 100000
set_option maxHeartbeats 4000000
namespace Lay
open PySem PySem.Spec PyProof.Rows L2


/-- the exceptions that a deed raises -/
def XOk (x : Str) (fs : List (Str × V)) : Prop := (x = "BadOperation" ∧ ∃ op ix, fs = BO op ix) ∨ (x = "Illegal" ∧ ∃ op ix, fs = BO op ix) ∨ (x = "Refused" ∧ ∃ y op ix, fs = ([("refusing", .str y), ("index", .int ix), ("operation", .int op)] : List (Str × V))) ∨
  (x = "Full" ∧ ∃ c, fs = ([("capacity", .int c)] : List (Str × V))) ∨ (x = "NothingToUndo" ∧ fs = []) ∨ (x = "NothingToRedo" ∧ fs = [])
def spRef (K : PySem.W.Frag) (pn : List (Addr × Obj)) : Sp := fun vs H Q _ => ∃ a oe x d fs G F, vs = [.ref a] ∧ pn = [(a, oe)] ∧ Zc (.ref (He.ga K x)) d oe ∧ (∃ fv, oe.data = .fields fv) ∧ H = joi G F ∧ Disj G F ∧ Good G ∧ Good F ∧ XDict d fs F ∧ XOk x fs ∧
  Goes K G (fun r F' => r = errD x (refF x fs) ∧ F' = F) Q
section
variable {w : World} {K : PySem.W.Frag} {mg : Str → Option Value} {base : Heap}

theorem okA_ulaw_refusal (T : TX K mg) : FnA PW w K mg base CX0 1 (gA "_law_refusal" K) (spRef K) := by
  obtain ⟨fd, F0⟩ := f_ulaw_refusal T
  refine fnA_of F0 n_ulaw_refusal (F0.bindsN fun _ _ _ _ _ _ us hl => match us, hl with | [_], _ => rfl) (fun pn vs H Q E ⟨_, _, _, _, _, _, _, e, _⟩ => by rw [e]; rfl) fun cdv A outer s H vs Q E pn hr h => ?_
  obtain ⟨a, oe, x, d, fs, G, F, rfl, rfl, hz, hf, rfl, dj, gG, gF, hx, ho, go⟩ := h
  have fin : ∀ t : TS, RnF K t [some (.m a), none, none] F (fun _ _ => False) (fun r F' => r = errD x (refF x fs) ∧ F' = F) → t { nx := fun _ H' => Q .non H', rt := Q } (start ["_law_e", "_law_words", "_law_fields"] [.ref a]) (joi G F) := fun t ht => by
    refine ht _ G ⟨⟨rfl, fun i dd e => ?_⟩, dj, gG, gF⟩ _ (fun σ' ss' G' F' g _ e => e.elim) go
    match i, e with
    | 0, e => cases e; exact ⟨.ref a, rfl, .m a⟩
    | 1, e => cases e
    | 2, e => cases e
    | n + 3, e => simp at e
  rcases ho with ⟨rfl, op, ix, rfl⟩ | ⟨rfl, op, ix, rfl⟩ | ⟨rfl, y, op, ix, rfl⟩ | ⟨rfl, c, rfl⟩ | ⟨rfl, rfl⟩ | ⟨rfl, rfl⟩
  · refine ⟨_, (pss_cons (ps_set (i := 1) n_ulaw_refusal.nd rfl (by first | exact .inl rfl | exact .inr rfl) (pe_lst pa_nil))
      (pss_cons (ps_set (i := 2) n_ulaw_refusal.nd rfl (by first | exact .inl rfl | exact .inr rfl) (pe_lst pa_nil))
      (pss_cons (ps_if (pt_val (pe_callB (call_isX (fs := (BO op ix)) (er_BadOperation T) List.mem_cons_self hz hf) (by rfl) (b_isinstance T) boot_isinstance' (pa_cons (pv 0) (pa_cons (pe_bltn (v := .ty "ValueError") (u := .type "ValueError") (by rfl) (b_ValueError T) (by decide +kernel) rfl) pa_nil)))) (pss_one (ps_expr (pe_bm PySem.F.plainAttrs_list PySem.F.slot_list_append PySem.F.type_list_append mt_append (pv 1) (pa_cons pe_str pa_nil)))) pss_nil)
      (pss_cons (ps_if (pt_val (pe_callB (call_isX (fs := (BO op ix)) (er_BadOperation T) List.mem_cons_self hz hf) (by rfl) (b_isinstance T) boot_isinstance' (pa_cons (pv 0) (pa_cons (pe_glob (v := .ref _) rfl (g_LogError T) rfl) pa_nil)))) (pss_one (ps_expr (pe_bm PySem.F.plainAttrs_list PySem.F.slot_list_append PySem.F.type_list_append mt_append (pv 1) (pa_cons pe_str pa_nil)))) pss_nil)
      (pss_cons (ps_if (pt_val (pe_callB (call_isX (fs := (BO op ix)) (er_BadOperation T) List.mem_cons_self hz hf) (by rfl) (b_isinstance T) boot_isinstance' (pa_cons (pv 0) (pa_cons (pe_glob (v := .ref _) rfl (g_BadOperation T) rfl) pa_nil)))) (pss_cons (ps_expr (pe_bm PySem.F.plainAttrs_list PySem.F.slot_list_append PySem.F.type_list_append mt_append (pv 1) (pa_cons pe_str pa_nil))) (pss_one (ps_set (i := 2) n_ulaw_refusal.nd rfl (by first | exact .inl rfl | exact .inr rfl) (pe_lst (pa_cons (pe_fldX (fs := (BO op ix)) (er_BadOperation T) (n_BadOperation_operation T) List.mem_cons_self hz hf (pv 0)) (pa_cons (pe_fldX (fs := (BO op ix)) (er_BadOperation T) (n_BadOperation_index T) List.mem_cons_self hz hf (pv 0)) pa_nil)))))) pss_nil)
      (pss_cons (ps_if (pt_val (pe_callB (call_isX (fs := (BO op ix)) (er_BadOperation T) List.mem_cons_self hz hf) (by rfl) (b_isinstance T) boot_isinstance' (pa_cons (pv 0) (pa_cons (pe_glob (v := .ref _) rfl (g_Illegal T) rfl) pa_nil)))) pss_never pss_nil)
      (pss_cons (ps_if (pt_val (pe_callB (call_isX (fs := (BO op ix)) (er_BadOperation T) List.mem_cons_self hz hf) (by rfl) (b_isinstance T) boot_isinstance' (pa_cons (pv 0) (pa_cons (pe_glob (v := .ref _) rfl (g_Refused T) rfl) pa_nil)))) pss_never pss_nil)
      (pss_cons (ps_if (pt_val (pe_callB (call_isX (fs := (BO op ix)) (er_BadOperation T) List.mem_cons_self hz hf) (by rfl) (b_isinstance T) boot_isinstance' (pa_cons (pv 0) (pa_cons (pe_glob (v := .ref _) rfl (g_Full T) rfl) pa_nil)))) pss_never pss_nil)
      (pss_cons (ps_if (pt_val (pe_callB (call_isX (fs := (BO op ix)) (er_BadOperation T) List.mem_cons_self hz hf) (by rfl) (b_isinstance T) boot_isinstance' (pa_cons (pv 0) (pa_cons (pe_glob (v := .ref _) rfl (g_NothingToUndo T) rfl) pa_nil)))) pss_never pss_nil)
      (pss_cons (ps_if (pt_val (pe_callB (call_isX (fs := (BO op ix)) (er_BadOperation T) List.mem_cons_self hz hf) (by rfl) (b_isinstance T) boot_isinstance' (pa_cons (pv 0) (pa_cons (pe_glob (v := .ref _) rfl (g_NothingToRedo T) rfl) pa_nil)))) pss_never pss_nil)
      (pss_one (ps_ret (pe_tup (pa_cons pe_str (pa_cons (pv 1) (pa_cons (pv 2) pa_nil)))))))))))))))), fin _ ?_⟩
    refine .seq (.asg (.nilF fun p hp => ?_))
    refine .seq (.asg (.evf (.lst .nil (by rw [sizeLine_eq]; simp)) ?_))
    have hx2 : ∀ vs : List V, XDict d (BO op ix) (upd F p (.lst vs)) := fun vs => xdict_upd hx hp
    refine .seq (.ifS (.val (.isX (.var rfl) (hx2 _) (fun u r => r) (kv_BadOperation T) ⟨_, rfl, ?_⟩)))
    rw [if_pos rfl]
    refine RnF.app (i := 1) (F0 := F) (vs := []) (v0 := .str "ValueError") rfl .str rfl (by simp) (fun G v r => r.str_inv) ?_
    refine .seq (.ifS (.val (.isX (.var rfl) (hx2 _) (fun u r => r) (ki_BadOperation_LogError T) ⟨_, rfl, ?_⟩)))
    rw [if_pos rfl]
    refine RnF.app (i := 1) (F0 := F) (vs := [.str "ValueError"]) (v0 := .str "LogError") rfl .str rfl (by simp) (fun G v r => r.str_inv) ?_
    refine .seq (.ifS (.val (.isX (.var rfl) (hx2 _) (fun u r => r) (ki_BadOperation_BadOperation T) ⟨_, rfl, ?_⟩)))
    rw [if_pos rfl]
    refine .seq (RnF.app (i := 1) (F0 := F) (vs := [.str "ValueError", .str "LogError"]) (v0 := .str "BadOperation") rfl .str rfl (by simp) (fun G v r => r.str_inv) ?_)
    refine .asg (.lstA (.cons (.fldX (.var rfl) (hx2 _) rfl True.intro (.cons (.fldX (.var rfl) (hx2 _) rfl True.intro (.nil ⟨(by rw [sizeLine_eq]; simp), ?_⟩))))))
    refine .seq (.ifS (.val (.isX (.var rfl) (hx2 _) (fun u r => r) (ki_BadOperation_Illegal T) ⟨_, rfl, ?_⟩)))
    rw [if_neg (by simp)]
    refine .nil ?_
    refine .seq (.ifS (.val (.isX (.var rfl) (hx2 _) (fun u r => r) (ki_BadOperation_Refused T) ⟨_, rfl, ?_⟩)))
    rw [if_neg (by simp)]
    refine .nil ?_
    refine .seq (.ifS (.val (.isX (.var rfl) (hx2 _) (fun u r => r) (ki_BadOperation_Full T) ⟨_, rfl, ?_⟩)))
    rw [if_neg (by simp)]
    refine .nil ?_
    refine .seq (.ifS (.val (.isX (.var rfl) (hx2 _) (fun u r => r) (ki_BadOperation_NothingToUndo T) ⟨_, rfl, ?_⟩)))
    rw [if_neg (by simp)]
    refine .nil ?_
    refine .seq (.ifS (.val (.isX (.var rfl) (hx2 _) (fun u r => r) (ki_BadOperation_NothingToRedo T) ⟨_, rfl, ?_⟩)))
    rw [if_neg (by simp)]
    refine .nil ?_
    refine RnF.freeze (i := 1) (F0 := F) (vs := [.str "ValueError", .str "LogError", .str "BadOperation"]) (ds := (["ValueError", "LogError", "BadOperation"] : List Str).map DV.s) rfl rfl gF hp (fun G => ⟨rfl, fun k v d h1 h2 => ?_⟩) ?_
    · match k, h1, h2 with
      | 0, h1, h2 => cases h1; cases h2; exact .s _
      | 1, h1, h2 => cases h1; cases h2; exact .s _
      | 2, h1, h2 => cases h1; cases h2; exact .s _
      | n + 3, h1, h2 => simp at h1
    exact .ret (.evf (.tup (.cons .str (.cons (.var rfl) (.cons (.var rfl) .nil))) (by rw [sizeLine_eq]; simp)) ⟨rfl, rfl⟩)
  · refine ⟨_, (pss_cons (ps_set (i := 1) n_ulaw_refusal.nd rfl (by first | exact .inl rfl | exact .inr rfl) (pe_lst pa_nil))
      (pss_cons (ps_set (i := 2) n_ulaw_refusal.nd rfl (by first | exact .inl rfl | exact .inr rfl) (pe_lst pa_nil))
      (pss_cons (ps_if (pt_val (pe_callB (call_isX (fs := (BO op ix)) (er_Illegal T) List.mem_cons_self hz hf) (by rfl) (b_isinstance T) boot_isinstance' (pa_cons (pv 0) (pa_cons (pe_bltn (v := .ty "ValueError") (u := .type "ValueError") (by rfl) (b_ValueError T) (by decide +kernel) rfl) pa_nil)))) (pss_one (ps_expr (pe_bm PySem.F.plainAttrs_list PySem.F.slot_list_append PySem.F.type_list_append mt_append (pv 1) (pa_cons pe_str pa_nil)))) pss_nil)
      (pss_cons (ps_if (pt_val (pe_callB (call_isX (fs := (BO op ix)) (er_Illegal T) List.mem_cons_self hz hf) (by rfl) (b_isinstance T) boot_isinstance' (pa_cons (pv 0) (pa_cons (pe_glob (v := .ref _) rfl (g_LogError T) rfl) pa_nil)))) (pss_one (ps_expr (pe_bm PySem.F.plainAttrs_list PySem.F.slot_list_append PySem.F.type_list_append mt_append (pv 1) (pa_cons pe_str pa_nil)))) pss_nil)
      (pss_cons (ps_if (pt_val (pe_callB (call_isX (fs := (BO op ix)) (er_Illegal T) List.mem_cons_self hz hf) (by rfl) (b_isinstance T) boot_isinstance' (pa_cons (pv 0) (pa_cons (pe_glob (v := .ref _) rfl (g_BadOperation T) rfl) pa_nil)))) pss_never pss_nil)
      (pss_cons (ps_if (pt_val (pe_callB (call_isX (fs := (BO op ix)) (er_Illegal T) List.mem_cons_self hz hf) (by rfl) (b_isinstance T) boot_isinstance' (pa_cons (pv 0) (pa_cons (pe_glob (v := .ref _) rfl (g_Illegal T) rfl) pa_nil)))) (pss_cons (ps_expr (pe_bm PySem.F.plainAttrs_list PySem.F.slot_list_append PySem.F.type_list_append mt_append (pv 1) (pa_cons pe_str pa_nil))) (pss_one (ps_set (i := 2) n_ulaw_refusal.nd rfl (by first | exact .inl rfl | exact .inr rfl) (pe_lst (pa_cons (pe_fldX (fs := (BO op ix)) (er_Illegal T) (n_Illegal_operation T) List.mem_cons_self hz hf (pv 0)) (pa_cons (pe_fldX (fs := (BO op ix)) (er_Illegal T) (n_Illegal_index T) List.mem_cons_self hz hf (pv 0)) pa_nil)))))) pss_nil)
      (pss_cons (ps_if (pt_val (pe_callB (call_isX (fs := (BO op ix)) (er_Illegal T) List.mem_cons_self hz hf) (by rfl) (b_isinstance T) boot_isinstance' (pa_cons (pv 0) (pa_cons (pe_glob (v := .ref _) rfl (g_Refused T) rfl) pa_nil)))) pss_never pss_nil)
      (pss_cons (ps_if (pt_val (pe_callB (call_isX (fs := (BO op ix)) (er_Illegal T) List.mem_cons_self hz hf) (by rfl) (b_isinstance T) boot_isinstance' (pa_cons (pv 0) (pa_cons (pe_glob (v := .ref _) rfl (g_Full T) rfl) pa_nil)))) pss_never pss_nil)
      (pss_cons (ps_if (pt_val (pe_callB (call_isX (fs := (BO op ix)) (er_Illegal T) List.mem_cons_self hz hf) (by rfl) (b_isinstance T) boot_isinstance' (pa_cons (pv 0) (pa_cons (pe_glob (v := .ref _) rfl (g_NothingToUndo T) rfl) pa_nil)))) pss_never pss_nil)
      (pss_cons (ps_if (pt_val (pe_callB (call_isX (fs := (BO op ix)) (er_Illegal T) List.mem_cons_self hz hf) (by rfl) (b_isinstance T) boot_isinstance' (pa_cons (pv 0) (pa_cons (pe_glob (v := .ref _) rfl (g_NothingToRedo T) rfl) pa_nil)))) pss_never pss_nil)
      (pss_one (ps_ret (pe_tup (pa_cons pe_str (pa_cons (pv 1) (pa_cons (pv 2) pa_nil)))))))))))))))), fin _ ?_⟩
    refine .seq (.asg (.nilF fun p hp => ?_))
    refine .seq (.asg (.evf (.lst .nil (by rw [sizeLine_eq]; simp)) ?_))
    have hx2 : ∀ vs : List V, XDict d (BO op ix) (upd F p (.lst vs)) := fun vs => xdict_upd hx hp
    refine .seq (.ifS (.val (.isX (.var rfl) (hx2 _) (fun u r => r) (kv_Illegal T) ⟨_, rfl, ?_⟩)))
    rw [if_pos rfl]
    refine RnF.app (i := 1) (F0 := F) (vs := []) (v0 := .str "ValueError") rfl .str rfl (by simp) (fun G v r => r.str_inv) ?_
    refine .seq (.ifS (.val (.isX (.var rfl) (hx2 _) (fun u r => r) (ki_Illegal_LogError T) ⟨_, rfl, ?_⟩)))
    rw [if_pos rfl]
    refine RnF.app (i := 1) (F0 := F) (vs := [.str "ValueError"]) (v0 := .str "LogError") rfl .str rfl (by simp) (fun G v r => r.str_inv) ?_
    refine .seq (.ifS (.val (.isX (.var rfl) (hx2 _) (fun u r => r) (ki_Illegal_BadOperation T) ⟨_, rfl, ?_⟩)))
    rw [if_neg (by simp)]
    refine .nil ?_
    refine .seq (.ifS (.val (.isX (.var rfl) (hx2 _) (fun u r => r) (ki_Illegal_Illegal T) ⟨_, rfl, ?_⟩)))
    rw [if_pos rfl]
    refine .seq (RnF.app (i := 1) (F0 := F) (vs := [.str "ValueError", .str "LogError"]) (v0 := .str "Illegal") rfl .str rfl (by simp) (fun G v r => r.str_inv) ?_)
    refine .asg (.lstA (.cons (.fldX (.var rfl) (hx2 _) rfl True.intro (.cons (.fldX (.var rfl) (hx2 _) rfl True.intro (.nil ⟨(by rw [sizeLine_eq]; simp), ?_⟩))))))
    refine .seq (.ifS (.val (.isX (.var rfl) (hx2 _) (fun u r => r) (ki_Illegal_Refused T) ⟨_, rfl, ?_⟩)))
    rw [if_neg (by simp)]
    refine .nil ?_
    refine .seq (.ifS (.val (.isX (.var rfl) (hx2 _) (fun u r => r) (ki_Illegal_Full T) ⟨_, rfl, ?_⟩)))
    rw [if_neg (by simp)]
    refine .nil ?_
    refine .seq (.ifS (.val (.isX (.var rfl) (hx2 _) (fun u r => r) (ki_Illegal_NothingToUndo T) ⟨_, rfl, ?_⟩)))
    rw [if_neg (by simp)]
    refine .nil ?_
    refine .seq (.ifS (.val (.isX (.var rfl) (hx2 _) (fun u r => r) (ki_Illegal_NothingToRedo T) ⟨_, rfl, ?_⟩)))
    rw [if_neg (by simp)]
    refine .nil ?_
    refine RnF.freeze (i := 1) (F0 := F) (vs := [.str "ValueError", .str "LogError", .str "Illegal"]) (ds := (["ValueError", "LogError", "Illegal"] : List Str).map DV.s) rfl rfl gF hp (fun G => ⟨rfl, fun k v d h1 h2 => ?_⟩) ?_
    · match k, h1, h2 with
      | 0, h1, h2 => cases h1; cases h2; exact .s _
      | 1, h1, h2 => cases h1; cases h2; exact .s _
      | 2, h1, h2 => cases h1; cases h2; exact .s _
      | n + 3, h1, h2 => simp at h1
    exact .ret (.evf (.tup (.cons .str (.cons (.var rfl) (.cons (.var rfl) .nil))) (by rw [sizeLine_eq]; simp)) ⟨rfl, rfl⟩)
  · refine ⟨_, (pss_cons (ps_set (i := 1) n_ulaw_refusal.nd rfl (by first | exact .inl rfl | exact .inr rfl) (pe_lst pa_nil))
      (pss_cons (ps_set (i := 2) n_ulaw_refusal.nd rfl (by first | exact .inl rfl | exact .inr rfl) (pe_lst pa_nil))
      (pss_cons (ps_if (pt_val (pe_callB (call_isX (fs := ([("refusing", .str y), ("index", .int ix), ("operation", .int op)] : List (Str × V))) (er_Refused T) List.mem_cons_self hz hf) (by rfl) (b_isinstance T) boot_isinstance' (pa_cons (pv 0) (pa_cons (pe_bltn (v := .ty "ValueError") (u := .type "ValueError") (by rfl) (b_ValueError T) (by decide +kernel) rfl) pa_nil)))) (pss_one (ps_expr (pe_bm PySem.F.plainAttrs_list PySem.F.slot_list_append PySem.F.type_list_append mt_append (pv 1) (pa_cons pe_str pa_nil)))) pss_nil)
      (pss_cons (ps_if (pt_val (pe_callB (call_isX (fs := ([("refusing", .str y), ("index", .int ix), ("operation", .int op)] : List (Str × V))) (er_Refused T) List.mem_cons_self hz hf) (by rfl) (b_isinstance T) boot_isinstance' (pa_cons (pv 0) (pa_cons (pe_glob (v := .ref _) rfl (g_LogError T) rfl) pa_nil)))) (pss_one (ps_expr (pe_bm PySem.F.plainAttrs_list PySem.F.slot_list_append PySem.F.type_list_append mt_append (pv 1) (pa_cons pe_str pa_nil)))) pss_nil)
      (pss_cons (ps_if (pt_val (pe_callB (call_isX (fs := ([("refusing", .str y), ("index", .int ix), ("operation", .int op)] : List (Str × V))) (er_Refused T) List.mem_cons_self hz hf) (by rfl) (b_isinstance T) boot_isinstance' (pa_cons (pv 0) (pa_cons (pe_glob (v := .ref _) rfl (g_BadOperation T) rfl) pa_nil)))) pss_never pss_nil)
      (pss_cons (ps_if (pt_val (pe_callB (call_isX (fs := ([("refusing", .str y), ("index", .int ix), ("operation", .int op)] : List (Str × V))) (er_Refused T) List.mem_cons_self hz hf) (by rfl) (b_isinstance T) boot_isinstance' (pa_cons (pv 0) (pa_cons (pe_glob (v := .ref _) rfl (g_Illegal T) rfl) pa_nil)))) pss_never pss_nil)
      (pss_cons (ps_if (pt_val (pe_callB (call_isX (fs := ([("refusing", .str y), ("index", .int ix), ("operation", .int op)] : List (Str × V))) (er_Refused T) List.mem_cons_self hz hf) (by rfl) (b_isinstance T) boot_isinstance' (pa_cons (pv 0) (pa_cons (pe_glob (v := .ref _) rfl (g_Refused T) rfl) pa_nil)))) (pss_cons (ps_expr (pe_bm PySem.F.plainAttrs_list PySem.F.slot_list_append PySem.F.type_list_append mt_append (pv 1) (pa_cons pe_str pa_nil))) (pss_one (ps_set (i := 2) n_ulaw_refusal.nd rfl (by first | exact .inl rfl | exact .inr rfl) (pe_lst (pa_cons (pe_fldX (fs := ([("refusing", .str y), ("index", .int ix), ("operation", .int op)] : List (Str × V))) (er_Refused T) (n_Refused_operation T) List.mem_cons_self hz hf (pv 0)) (pa_cons (pe_fldX (fs := ([("refusing", .str y), ("index", .int ix), ("operation", .int op)] : List (Str × V))) (er_Refused T) (n_Refused_index T) List.mem_cons_self hz hf (pv 0)) (pa_cons (pe_fldX (fs := ([("refusing", .str y), ("index", .int ix), ("operation", .int op)] : List (Str × V))) (er_Refused T) (n_Refused_refusing T) List.mem_cons_self hz hf (pv 0)) pa_nil))))))) pss_nil)
      (pss_cons (ps_if (pt_val (pe_callB (call_isX (fs := ([("refusing", .str y), ("index", .int ix), ("operation", .int op)] : List (Str × V))) (er_Refused T) List.mem_cons_self hz hf) (by rfl) (b_isinstance T) boot_isinstance' (pa_cons (pv 0) (pa_cons (pe_glob (v := .ref _) rfl (g_Full T) rfl) pa_nil)))) pss_never pss_nil)
      (pss_cons (ps_if (pt_val (pe_callB (call_isX (fs := ([("refusing", .str y), ("index", .int ix), ("operation", .int op)] : List (Str × V))) (er_Refused T) List.mem_cons_self hz hf) (by rfl) (b_isinstance T) boot_isinstance' (pa_cons (pv 0) (pa_cons (pe_glob (v := .ref _) rfl (g_NothingToUndo T) rfl) pa_nil)))) pss_never pss_nil)
      (pss_cons (ps_if (pt_val (pe_callB (call_isX (fs := ([("refusing", .str y), ("index", .int ix), ("operation", .int op)] : List (Str × V))) (er_Refused T) List.mem_cons_self hz hf) (by rfl) (b_isinstance T) boot_isinstance' (pa_cons (pv 0) (pa_cons (pe_glob (v := .ref _) rfl (g_NothingToRedo T) rfl) pa_nil)))) pss_never pss_nil)
      (pss_one (ps_ret (pe_tup (pa_cons pe_str (pa_cons (pv 1) (pa_cons (pv 2) pa_nil)))))))))))))))), fin _ ?_⟩
    refine .seq (.asg (.nilF fun p hp => ?_))
    refine .seq (.asg (.evf (.lst .nil (by rw [sizeLine_eq]; simp)) ?_))
    have hx2 : ∀ vs : List V, XDict d ([("refusing", .str y), ("index", .int ix), ("operation", .int op)] : List (Str × V)) (upd F p (.lst vs)) := fun vs => xdict_upd hx hp
    refine .seq (.ifS (.val (.isX (.var rfl) (hx2 _) (fun u r => r) (kv_Refused T) ⟨_, rfl, ?_⟩)))
    rw [if_pos rfl]
    refine RnF.app (i := 1) (F0 := F) (vs := []) (v0 := .str "ValueError") rfl .str rfl (by simp) (fun G v r => r.str_inv) ?_
    refine .seq (.ifS (.val (.isX (.var rfl) (hx2 _) (fun u r => r) (ki_Refused_LogError T) ⟨_, rfl, ?_⟩)))
    rw [if_pos rfl]
    refine RnF.app (i := 1) (F0 := F) (vs := [.str "ValueError"]) (v0 := .str "LogError") rfl .str rfl (by simp) (fun G v r => r.str_inv) ?_
    refine .seq (.ifS (.val (.isX (.var rfl) (hx2 _) (fun u r => r) (ki_Refused_BadOperation T) ⟨_, rfl, ?_⟩)))
    rw [if_neg (by simp)]
    refine .nil ?_
    refine .seq (.ifS (.val (.isX (.var rfl) (hx2 _) (fun u r => r) (ki_Refused_Illegal T) ⟨_, rfl, ?_⟩)))
    rw [if_neg (by simp)]
    refine .nil ?_
    refine .seq (.ifS (.val (.isX (.var rfl) (hx2 _) (fun u r => r) (ki_Refused_Refused T) ⟨_, rfl, ?_⟩)))
    rw [if_pos rfl]
    refine .seq (RnF.app (i := 1) (F0 := F) (vs := [.str "ValueError", .str "LogError"]) (v0 := .str "Refused") rfl .str rfl (by simp) (fun G v r => r.str_inv) ?_)
    refine .asg (.lstA (.cons (.fldX (.var rfl) (hx2 _) rfl True.intro (.cons (.fldX (.var rfl) (hx2 _) rfl True.intro (.cons (.fldX (.var rfl) (hx2 _) rfl True.intro (.nil ⟨(by rw [sizeLine_eq]; simp), ?_⟩))))))))
    refine .seq (.ifS (.val (.isX (.var rfl) (hx2 _) (fun u r => r) (ki_Refused_Full T) ⟨_, rfl, ?_⟩)))
    rw [if_neg (by simp)]
    refine .nil ?_
    refine .seq (.ifS (.val (.isX (.var rfl) (hx2 _) (fun u r => r) (ki_Refused_NothingToUndo T) ⟨_, rfl, ?_⟩)))
    rw [if_neg (by simp)]
    refine .nil ?_
    refine .seq (.ifS (.val (.isX (.var rfl) (hx2 _) (fun u r => r) (ki_Refused_NothingToRedo T) ⟨_, rfl, ?_⟩)))
    rw [if_neg (by simp)]
    refine .nil ?_
    refine RnF.freeze (i := 1) (F0 := F) (vs := [.str "ValueError", .str "LogError", .str "Refused"]) (ds := (["ValueError", "LogError", "Refused"] : List Str).map DV.s) rfl rfl gF hp (fun G => ⟨rfl, fun k v d h1 h2 => ?_⟩) ?_
    · match k, h1, h2 with
      | 0, h1, h2 => cases h1; cases h2; exact .s _
      | 1, h1, h2 => cases h1; cases h2; exact .s _
      | 2, h1, h2 => cases h1; cases h2; exact .s _
      | n + 3, h1, h2 => simp at h1
    exact .ret (.evf (.tup (.cons .str (.cons (.var rfl) (.cons (.var rfl) .nil))) (by rw [sizeLine_eq]; simp)) ⟨rfl, rfl⟩)
  · refine ⟨_, (pss_cons (ps_set (i := 1) n_ulaw_refusal.nd rfl (by first | exact .inl rfl | exact .inr rfl) (pe_lst pa_nil))
      (pss_cons (ps_set (i := 2) n_ulaw_refusal.nd rfl (by first | exact .inl rfl | exact .inr rfl) (pe_lst pa_nil))
      (pss_cons (ps_if (pt_val (pe_callB (call_isX (fs := ([("capacity", .int c)] : List (Str × V))) (er_Full T) List.mem_cons_self hz hf) (by rfl) (b_isinstance T) boot_isinstance' (pa_cons (pv 0) (pa_cons (pe_bltn (v := .ty "ValueError") (u := .type "ValueError") (by rfl) (b_ValueError T) (by decide +kernel) rfl) pa_nil)))) (pss_one (ps_expr (pe_bm PySem.F.plainAttrs_list PySem.F.slot_list_append PySem.F.type_list_append mt_append (pv 1) (pa_cons pe_str pa_nil)))) pss_nil)
      (pss_cons (ps_if (pt_val (pe_callB (call_isX (fs := ([("capacity", .int c)] : List (Str × V))) (er_Full T) List.mem_cons_self hz hf) (by rfl) (b_isinstance T) boot_isinstance' (pa_cons (pv 0) (pa_cons (pe_glob (v := .ref _) rfl (g_LogError T) rfl) pa_nil)))) pss_never pss_nil)
      (pss_cons (ps_if (pt_val (pe_callB (call_isX (fs := ([("capacity", .int c)] : List (Str × V))) (er_Full T) List.mem_cons_self hz hf) (by rfl) (b_isinstance T) boot_isinstance' (pa_cons (pv 0) (pa_cons (pe_glob (v := .ref _) rfl (g_BadOperation T) rfl) pa_nil)))) pss_never pss_nil)
      (pss_cons (ps_if (pt_val (pe_callB (call_isX (fs := ([("capacity", .int c)] : List (Str × V))) (er_Full T) List.mem_cons_self hz hf) (by rfl) (b_isinstance T) boot_isinstance' (pa_cons (pv 0) (pa_cons (pe_glob (v := .ref _) rfl (g_Illegal T) rfl) pa_nil)))) pss_never pss_nil)
      (pss_cons (ps_if (pt_val (pe_callB (call_isX (fs := ([("capacity", .int c)] : List (Str × V))) (er_Full T) List.mem_cons_self hz hf) (by rfl) (b_isinstance T) boot_isinstance' (pa_cons (pv 0) (pa_cons (pe_glob (v := .ref _) rfl (g_Refused T) rfl) pa_nil)))) pss_never pss_nil)
      (pss_cons (ps_if (pt_val (pe_callB (call_isX (fs := ([("capacity", .int c)] : List (Str × V))) (er_Full T) List.mem_cons_self hz hf) (by rfl) (b_isinstance T) boot_isinstance' (pa_cons (pv 0) (pa_cons (pe_glob (v := .ref _) rfl (g_Full T) rfl) pa_nil)))) (pss_cons (ps_expr (pe_bm PySem.F.plainAttrs_list PySem.F.slot_list_append PySem.F.type_list_append mt_append (pv 1) (pa_cons pe_str pa_nil))) (pss_one (ps_set (i := 2) n_ulaw_refusal.nd rfl (by first | exact .inl rfl | exact .inr rfl) (pe_lst (pa_cons (pe_fldX (fs := ([("capacity", .int c)] : List (Str × V))) (er_Full T) (n_Full_capacity T) List.mem_cons_self hz hf (pv 0)) pa_nil))))) pss_nil)
      (pss_cons (ps_if (pt_val (pe_callB (call_isX (fs := ([("capacity", .int c)] : List (Str × V))) (er_Full T) List.mem_cons_self hz hf) (by rfl) (b_isinstance T) boot_isinstance' (pa_cons (pv 0) (pa_cons (pe_glob (v := .ref _) rfl (g_NothingToUndo T) rfl) pa_nil)))) pss_never pss_nil)
      (pss_cons (ps_if (pt_val (pe_callB (call_isX (fs := ([("capacity", .int c)] : List (Str × V))) (er_Full T) List.mem_cons_self hz hf) (by rfl) (b_isinstance T) boot_isinstance' (pa_cons (pv 0) (pa_cons (pe_glob (v := .ref _) rfl (g_NothingToRedo T) rfl) pa_nil)))) pss_never pss_nil)
      (pss_one (ps_ret (pe_tup (pa_cons pe_str (pa_cons (pv 1) (pa_cons (pv 2) pa_nil)))))))))))))))), fin _ ?_⟩
    refine .seq (.asg (.nilF fun p hp => ?_))
    refine .seq (.asg (.evf (.lst .nil (by rw [sizeLine_eq]; simp)) ?_))
    have hx2 : ∀ vs : List V, XDict d ([("capacity", .int c)] : List (Str × V)) (upd F p (.lst vs)) := fun vs => xdict_upd hx hp
    refine .seq (.ifS (.val (.isX (.var rfl) (hx2 _) (fun u r => r) (kv_Full T) ⟨_, rfl, ?_⟩)))
    rw [if_pos rfl]
    refine RnF.app (i := 1) (F0 := F) (vs := []) (v0 := .str "ValueError") rfl .str rfl (by simp) (fun G v r => r.str_inv) ?_
    refine .seq (.ifS (.val (.isX (.var rfl) (hx2 _) (fun u r => r) (ki_Full_LogError T) ⟨_, rfl, ?_⟩)))
    rw [if_neg (by simp)]
    refine .nil ?_
    refine .seq (.ifS (.val (.isX (.var rfl) (hx2 _) (fun u r => r) (ki_Full_BadOperation T) ⟨_, rfl, ?_⟩)))
    rw [if_neg (by simp)]
    refine .nil ?_
    refine .seq (.ifS (.val (.isX (.var rfl) (hx2 _) (fun u r => r) (ki_Full_Illegal T) ⟨_, rfl, ?_⟩)))
    rw [if_neg (by simp)]
    refine .nil ?_
    refine .seq (.ifS (.val (.isX (.var rfl) (hx2 _) (fun u r => r) (ki_Full_Refused T) ⟨_, rfl, ?_⟩)))
    rw [if_neg (by simp)]
    refine .nil ?_
    refine .seq (.ifS (.val (.isX (.var rfl) (hx2 _) (fun u r => r) (ki_Full_Full T) ⟨_, rfl, ?_⟩)))
    rw [if_pos rfl]
    refine .seq (RnF.app (i := 1) (F0 := F) (vs := [.str "ValueError"]) (v0 := .str "Full") rfl .str rfl (by simp) (fun G v r => r.str_inv) ?_)
    refine .asg (.lstA (.cons (.fldX (.var rfl) (hx2 _) rfl True.intro (.nil ⟨(by rw [sizeLine_eq]; simp), ?_⟩))))
    refine .seq (.ifS (.val (.isX (.var rfl) (hx2 _) (fun u r => r) (ki_Full_NothingToUndo T) ⟨_, rfl, ?_⟩)))
    rw [if_neg (by simp)]
    refine .nil ?_
    refine .seq (.ifS (.val (.isX (.var rfl) (hx2 _) (fun u r => r) (ki_Full_NothingToRedo T) ⟨_, rfl, ?_⟩)))
    rw [if_neg (by simp)]
    refine .nil ?_
    refine RnF.freeze (i := 1) (F0 := F) (vs := [.str "ValueError", .str "Full"]) (ds := (["ValueError", "Full"] : List Str).map DV.s) rfl rfl gF hp (fun G => ⟨rfl, fun k v d h1 h2 => ?_⟩) ?_
    · match k, h1, h2 with
      | 0, h1, h2 => cases h1; cases h2; exact .s _
      | 1, h1, h2 => cases h1; cases h2; exact .s _
      | n + 2, h1, h2 => simp at h1
    exact .ret (.evf (.tup (.cons .str (.cons (.var rfl) (.cons (.var rfl) .nil))) (by rw [sizeLine_eq]; simp)) ⟨rfl, rfl⟩)
  · refine ⟨_, (pss_cons (ps_set (i := 1) n_ulaw_refusal.nd rfl (by first | exact .inl rfl | exact .inr rfl) (pe_lst pa_nil))
      (pss_cons (ps_set (i := 2) n_ulaw_refusal.nd rfl (by first | exact .inl rfl | exact .inr rfl) (pe_lst pa_nil))
      (pss_cons (ps_if (pt_val (pe_callB (call_isX (fs := []) (er_NothingToUndo T) List.mem_cons_self hz hf) (by rfl) (b_isinstance T) boot_isinstance' (pa_cons (pv 0) (pa_cons (pe_bltn (v := .ty "ValueError") (u := .type "ValueError") (by rfl) (b_ValueError T) (by decide +kernel) rfl) pa_nil)))) (pss_one (ps_expr (pe_bm PySem.F.plainAttrs_list PySem.F.slot_list_append PySem.F.type_list_append mt_append (pv 1) (pa_cons pe_str pa_nil)))) pss_nil)
      (pss_cons (ps_if (pt_val (pe_callB (call_isX (fs := []) (er_NothingToUndo T) List.mem_cons_self hz hf) (by rfl) (b_isinstance T) boot_isinstance' (pa_cons (pv 0) (pa_cons (pe_glob (v := .ref _) rfl (g_LogError T) rfl) pa_nil)))) pss_never pss_nil)
      (pss_cons (ps_if (pt_val (pe_callB (call_isX (fs := []) (er_NothingToUndo T) List.mem_cons_self hz hf) (by rfl) (b_isinstance T) boot_isinstance' (pa_cons (pv 0) (pa_cons (pe_glob (v := .ref _) rfl (g_BadOperation T) rfl) pa_nil)))) pss_never pss_nil)
      (pss_cons (ps_if (pt_val (pe_callB (call_isX (fs := []) (er_NothingToUndo T) List.mem_cons_self hz hf) (by rfl) (b_isinstance T) boot_isinstance' (pa_cons (pv 0) (pa_cons (pe_glob (v := .ref _) rfl (g_Illegal T) rfl) pa_nil)))) pss_never pss_nil)
      (pss_cons (ps_if (pt_val (pe_callB (call_isX (fs := []) (er_NothingToUndo T) List.mem_cons_self hz hf) (by rfl) (b_isinstance T) boot_isinstance' (pa_cons (pv 0) (pa_cons (pe_glob (v := .ref _) rfl (g_Refused T) rfl) pa_nil)))) pss_never pss_nil)
      (pss_cons (ps_if (pt_val (pe_callB (call_isX (fs := []) (er_NothingToUndo T) List.mem_cons_self hz hf) (by rfl) (b_isinstance T) boot_isinstance' (pa_cons (pv 0) (pa_cons (pe_glob (v := .ref _) rfl (g_Full T) rfl) pa_nil)))) pss_never pss_nil)
      (pss_cons (ps_if (pt_val (pe_callB (call_isX (fs := []) (er_NothingToUndo T) List.mem_cons_self hz hf) (by rfl) (b_isinstance T) boot_isinstance' (pa_cons (pv 0) (pa_cons (pe_glob (v := .ref _) rfl (g_NothingToUndo T) rfl) pa_nil)))) (pss_one (ps_expr (pe_bm PySem.F.plainAttrs_list PySem.F.slot_list_append PySem.F.type_list_append mt_append (pv 1) (pa_cons pe_str pa_nil)))) pss_nil)
      (pss_cons (ps_if (pt_val (pe_callB (call_isX (fs := []) (er_NothingToUndo T) List.mem_cons_self hz hf) (by rfl) (b_isinstance T) boot_isinstance' (pa_cons (pv 0) (pa_cons (pe_glob (v := .ref _) rfl (g_NothingToRedo T) rfl) pa_nil)))) pss_never pss_nil)
      (pss_one (ps_ret (pe_tup (pa_cons pe_str (pa_cons (pv 1) (pa_cons (pv 2) pa_nil)))))))))))))))), fin _ ?_⟩
    refine .seq (.asg (.nilF fun p hp => ?_))
    refine .seq (.asg (.evf (.lst .nil (by rw [sizeLine_eq]; simp)) ?_))
    have hx2 : ∀ vs : List V, XDict d [] (upd F p (.lst vs)) := fun vs => xdict_upd hx hp
    refine .seq (.ifS (.val (.isX (.var rfl) (hx2 _) (fun u r => r) (kv_NothingToUndo T) ⟨_, rfl, ?_⟩)))
    rw [if_pos rfl]
    refine RnF.app (i := 1) (F0 := F) (vs := []) (v0 := .str "ValueError") rfl .str rfl (by simp) (fun G v r => r.str_inv) ?_
    refine .seq (.ifS (.val (.isX (.var rfl) (hx2 _) (fun u r => r) (ki_NothingToUndo_LogError T) ⟨_, rfl, ?_⟩)))
    rw [if_neg (by simp)]
    refine .nil ?_
    refine .seq (.ifS (.val (.isX (.var rfl) (hx2 _) (fun u r => r) (ki_NothingToUndo_BadOperation T) ⟨_, rfl, ?_⟩)))
    rw [if_neg (by simp)]
    refine .nil ?_
    refine .seq (.ifS (.val (.isX (.var rfl) (hx2 _) (fun u r => r) (ki_NothingToUndo_Illegal T) ⟨_, rfl, ?_⟩)))
    rw [if_neg (by simp)]
    refine .nil ?_
    refine .seq (.ifS (.val (.isX (.var rfl) (hx2 _) (fun u r => r) (ki_NothingToUndo_Refused T) ⟨_, rfl, ?_⟩)))
    rw [if_neg (by simp)]
    refine .nil ?_
    refine .seq (.ifS (.val (.isX (.var rfl) (hx2 _) (fun u r => r) (ki_NothingToUndo_Full T) ⟨_, rfl, ?_⟩)))
    rw [if_neg (by simp)]
    refine .nil ?_
    refine .seq (.ifS (.val (.isX (.var rfl) (hx2 _) (fun u r => r) (ki_NothingToUndo_NothingToUndo T) ⟨_, rfl, ?_⟩)))
    rw [if_pos rfl]
    refine RnF.app (i := 1) (F0 := F) (vs := [.str "ValueError"]) (v0 := .str "NothingToUndo") rfl .str rfl (by simp) (fun G v r => r.str_inv) ?_
    refine .seq (.ifS (.val (.isX (.var rfl) (hx2 _) (fun u r => r) (ki_NothingToUndo_NothingToRedo T) ⟨_, rfl, ?_⟩)))
    rw [if_neg (by simp)]
    refine .nil ?_
    refine RnF.freeze (i := 1) (F0 := F) (vs := [.str "ValueError", .str "NothingToUndo"]) (ds := (["ValueError", "NothingToUndo"] : List Str).map DV.s) rfl rfl gF hp (fun G => ⟨rfl, fun k v d h1 h2 => ?_⟩) ?_
    · match k, h1, h2 with
      | 0, h1, h2 => cases h1; cases h2; exact .s _
      | 1, h1, h2 => cases h1; cases h2; exact .s _
      | n + 2, h1, h2 => simp at h1
    exact .ret (.evf (.tup (.cons .str (.cons (.var rfl) (.cons (.var rfl) .nil))) (by rw [sizeLine_eq]; simp)) ⟨rfl, rfl⟩)
  · refine ⟨_, (pss_cons (ps_set (i := 1) n_ulaw_refusal.nd rfl (by first | exact .inl rfl | exact .inr rfl) (pe_lst pa_nil))
      (pss_cons (ps_set (i := 2) n_ulaw_refusal.nd rfl (by first | exact .inl rfl | exact .inr rfl) (pe_lst pa_nil))
      (pss_cons (ps_if (pt_val (pe_callB (call_isX (fs := []) (er_NothingToRedo T) List.mem_cons_self hz hf) (by rfl) (b_isinstance T) boot_isinstance' (pa_cons (pv 0) (pa_cons (pe_bltn (v := .ty "ValueError") (u := .type "ValueError") (by rfl) (b_ValueError T) (by decide +kernel) rfl) pa_nil)))) (pss_one (ps_expr (pe_bm PySem.F.plainAttrs_list PySem.F.slot_list_append PySem.F.type_list_append mt_append (pv 1) (pa_cons pe_str pa_nil)))) pss_nil)
      (pss_cons (ps_if (pt_val (pe_callB (call_isX (fs := []) (er_NothingToRedo T) List.mem_cons_self hz hf) (by rfl) (b_isinstance T) boot_isinstance' (pa_cons (pv 0) (pa_cons (pe_glob (v := .ref _) rfl (g_LogError T) rfl) pa_nil)))) pss_never pss_nil)
      (pss_cons (ps_if (pt_val (pe_callB (call_isX (fs := []) (er_NothingToRedo T) List.mem_cons_self hz hf) (by rfl) (b_isinstance T) boot_isinstance' (pa_cons (pv 0) (pa_cons (pe_glob (v := .ref _) rfl (g_BadOperation T) rfl) pa_nil)))) pss_never pss_nil)
      (pss_cons (ps_if (pt_val (pe_callB (call_isX (fs := []) (er_NothingToRedo T) List.mem_cons_self hz hf) (by rfl) (b_isinstance T) boot_isinstance' (pa_cons (pv 0) (pa_cons (pe_glob (v := .ref _) rfl (g_Illegal T) rfl) pa_nil)))) pss_never pss_nil)
      (pss_cons (ps_if (pt_val (pe_callB (call_isX (fs := []) (er_NothingToRedo T) List.mem_cons_self hz hf) (by rfl) (b_isinstance T) boot_isinstance' (pa_cons (pv 0) (pa_cons (pe_glob (v := .ref _) rfl (g_Refused T) rfl) pa_nil)))) pss_never pss_nil)
      (pss_cons (ps_if (pt_val (pe_callB (call_isX (fs := []) (er_NothingToRedo T) List.mem_cons_self hz hf) (by rfl) (b_isinstance T) boot_isinstance' (pa_cons (pv 0) (pa_cons (pe_glob (v := .ref _) rfl (g_Full T) rfl) pa_nil)))) pss_never pss_nil)
      (pss_cons (ps_if (pt_val (pe_callB (call_isX (fs := []) (er_NothingToRedo T) List.mem_cons_self hz hf) (by rfl) (b_isinstance T) boot_isinstance' (pa_cons (pv 0) (pa_cons (pe_glob (v := .ref _) rfl (g_NothingToUndo T) rfl) pa_nil)))) pss_never pss_nil)
      (pss_cons (ps_if (pt_val (pe_callB (call_isX (fs := []) (er_NothingToRedo T) List.mem_cons_self hz hf) (by rfl) (b_isinstance T) boot_isinstance' (pa_cons (pv 0) (pa_cons (pe_glob (v := .ref _) rfl (g_NothingToRedo T) rfl) pa_nil)))) (pss_one (ps_expr (pe_bm PySem.F.plainAttrs_list PySem.F.slot_list_append PySem.F.type_list_append mt_append (pv 1) (pa_cons pe_str pa_nil)))) pss_nil)
      (pss_one (ps_ret (pe_tup (pa_cons pe_str (pa_cons (pv 1) (pa_cons (pv 2) pa_nil)))))))))))))))), fin _ ?_⟩
    refine .seq (.asg (.nilF fun p hp => ?_))
    refine .seq (.asg (.evf (.lst .nil (by rw [sizeLine_eq]; simp)) ?_))
    have hx2 : ∀ vs : List V, XDict d [] (upd F p (.lst vs)) := fun vs => xdict_upd hx hp
    refine .seq (.ifS (.val (.isX (.var rfl) (hx2 _) (fun u r => r) (kv_NothingToRedo T) ⟨_, rfl, ?_⟩)))
    rw [if_pos rfl]
    refine RnF.app (i := 1) (F0 := F) (vs := []) (v0 := .str "ValueError") rfl .str rfl (by simp) (fun G v r => r.str_inv) ?_
    refine .seq (.ifS (.val (.isX (.var rfl) (hx2 _) (fun u r => r) (ki_NothingToRedo_LogError T) ⟨_, rfl, ?_⟩)))
    rw [if_neg (by simp)]
    refine .nil ?_
    refine .seq (.ifS (.val (.isX (.var rfl) (hx2 _) (fun u r => r) (ki_NothingToRedo_BadOperation T) ⟨_, rfl, ?_⟩)))
    rw [if_neg (by simp)]
    refine .nil ?_
    refine .seq (.ifS (.val (.isX (.var rfl) (hx2 _) (fun u r => r) (ki_NothingToRedo_Illegal T) ⟨_, rfl, ?_⟩)))
    rw [if_neg (by simp)]
    refine .nil ?_
    refine .seq (.ifS (.val (.isX (.var rfl) (hx2 _) (fun u r => r) (ki_NothingToRedo_Refused T) ⟨_, rfl, ?_⟩)))
    rw [if_neg (by simp)]
    refine .nil ?_
    refine .seq (.ifS (.val (.isX (.var rfl) (hx2 _) (fun u r => r) (ki_NothingToRedo_Full T) ⟨_, rfl, ?_⟩)))
    rw [if_neg (by simp)]
    refine .nil ?_
    refine .seq (.ifS (.val (.isX (.var rfl) (hx2 _) (fun u r => r) (ki_NothingToRedo_NothingToUndo T) ⟨_, rfl, ?_⟩)))
    rw [if_neg (by simp)]
    refine .nil ?_
    refine .seq (.ifS (.val (.isX (.var rfl) (hx2 _) (fun u r => r) (ki_NothingToRedo_NothingToRedo T) ⟨_, rfl, ?_⟩)))
    rw [if_pos rfl]
    refine RnF.app (i := 1) (F0 := F) (vs := [.str "ValueError"]) (v0 := .str "NothingToRedo") rfl .str rfl (by simp) (fun G v r => r.str_inv) ?_
    refine RnF.freeze (i := 1) (F0 := F) (vs := [.str "ValueError", .str "NothingToRedo"]) (ds := (["ValueError", "NothingToRedo"] : List Str).map DV.s) rfl rfl gF hp (fun G => ⟨rfl, fun k v d h1 h2 => ?_⟩) ?_
    · match k, h1, h2 with
      | 0, h1, h2 => cases h1; cases h2; exact .s _
      | 1, h1, h2 => cases h1; cases h2; exact .s _
      | n + 2, h1, h2 => simp at h1
    exact .ret (.evf (.tup (.cons .str (.cons (.var rfl) (.cons (.var rfl) .nil))) (by rw [sizeLine_eq]; simp)) ⟨rfl, rfl⟩)

end
end Lay
end
section
set_option Elab.async false
set_option linter.all false
set_option autoImplicit false
set_option maxRecDepth 100000
set_option maxHeartbeats 4000000
/-! own layer Y: a try that catches what the body raises -/
namespace Lay
open PySem PySem.Spec PyProof.Rows L2
theorem ixt (K : PySem.W.Frag) {X : Cx} (h : X.K = K := by rfl) : IxR X (rIxT K) := h ▸ ix_tup
/-- try: body, except x as n: suite, by a name -/
def tTryR (K : PySem.W.Frag) (c : Value) (i : Nat) (ts : Addr → Value → Option Addr → TS) (tb : WX → TS) (Wout : WX) : TS := fun D σ H => tb (wAs K c i ts Wout D) D σ H
theorem ps_tryR (K : PySem.W.Frag) {X : Cx} {x n : Str} {c : Value} {i : Nat} {body suite : List Stmt} {b₀ : Stmt} {np pos pos' : Pos} {tb : WX → TS} {ts : Addr → Value → Option Addr → TS} {Wout : WX} (hs : X.stack = X.env :: X.outer) (hf : X.env.frame = some X.env.locals) (hN : X.N.Nodup) (hi : X.N[i]? = some n) (hln : X.env.kindOf n = some .local) (hc : Names X x c) (tk : Takes X Wout)
    (hb : ∀ (W : WX) (pn : List (Addr × Obj)) (xe : Value → Shared → Prop), Takes (X.tr pn xe) W → PassesOwn (model X.prog X.w) X.A X.env xe → PSs (X.tr pn xe) body (tb W))
    (hsu : ∀ (a : Addr) (oe : Obj) (cls : Value) (d : Option Addr) (pn : List (Addr × Obj)), Zc cls d oe → (∃ vs, oe.data = .fields vs) → PSs (X.suite a ((a, oe) :: pn)) (b₀ :: suite) (ts a cls d)) (hK : X.K = K := by rfl) :
    PS X (.Try body [.ExceptHandler (some (.Name x np)) (some n) (b₀ :: suite) pos'] [] [] pos) (tTryR K c i ts tb Wout) := hK ▸ ps_try_as hs hf hN hi hln hc tk hb hsu
def EvW (K : PySem.W.Frag) (L : Nat) (W : WX) (te : TE) (ss : List (Option DV)) (F : Hp) (P : DV → Hp → Prop) (PE : XP) : Prop := ∀ σ G, Okk K G F σ ss → ∀ Q : VK, Goes K G P Q → (∀ σ' : L2.St, σ'.length = L → GoesX K G PE (WE W σ')) → te σ (joi G F) Q
def RnW (K : PySem.W.Frag) (L : Nat) (W : WX) (ts : TS) (ss : List (Option DV)) (F : Hp) (N : List (Option DV) → Hp → Prop) (R : DV → Hp → Prop) (PE : XP) : Prop :=
  ∀ σ G, Okk K G F σ ss → ∀ D : Ends, (∀ σ' ss' G' F', Gr G G' F' → Sg K G' σ' ss' → N ss' F' → D.nx σ' (joi G' F')) → Goes K G R D.rt → (∀ σ' : L2.St, σ'.length = L → GoesX K G PE (WE W σ')) → ts D σ (joi G F)
section
variable {K : PySem.W.Frag} {L : Nat} {W : WX} {te ta : TE} {tt : TT} {ts tr : TS} {tas : TA} {ss : List (Option DV)} {F : Hp} {P : DV → Hp → Prop} {d : DV} {N : List (Option DV) → Hp → Prop} {R : DV → Hp → Prop} {c : Bool} {ds : List DV} {PE : XP} {Φ : PhX}
theorem RnW.nil (h : N ss F) : RnW K L W tNext ss F N R PE := fun σ G o D nx rt _ => (RnF.nil (R := R) h) σ G o D nx rt
theorem RnW.seq (h : RnW K L W ts ss F (fun ss' F' => RnW K L W tr ss' F' N R PE) R PE) : RnW K L W (tSeq ts tr) ss F N R PE := fun σ G o D hN hR hX =>
  h σ G o { D with nx := tr D } (fun σ' ss' G' F' g s p => p σ' G' ⟨s, g.dj, g.gG, g.gF⟩ D (fun σ2 ss2 G2 F2 g2 s2 p2 => hN σ2 ss2 G2 F2 (g.trans g2) s2 p2) (hR.gr g) (fun σ' hl => (hX σ' hl).gr g)) hR hX
theorem RnW.ret (h : EvW K L W te ss F R PE) : RnW K L W (tRet te) ss F N R PE := fun σ G o D hN hR hX => h σ G o _ hR hX
theorem RnW.ifB (hc : EvB K tt ss c) (h1 : c = true → RnW K L W ts ss F N R PE) (h2 : c = false → RnW K L W tr ss F N R PE) : RnW K L W (tIfS tt ts tr) ss F N R PE := fun σ G o D hN hR hX =>
  hc.at o fun G' g => by
    have p' : ∀ (u : TS), RnW K L W u ss F N R PE → u D σ (joi G' F) := fun u hu => hu σ G' (o.gr g) D (fun σ2 ss2 G2 F2 g2 s2 p2 => hN σ2 ss2 G2 F2 (g.trans g2) s2 p2) (hR.gr g) (fun σ' hl => (hX σ' hl).gr g)
    cases c with
    | true => exact p' ts (h1 rfl)
    | false => exact p' tr (h2 rfl)
theorem EvW.call (hl : ss.length = L) (h : EvA K tas ss F fun ds F' => Φ ds F' P PE) : EvW K L W (tCallS (PDX K Φ) (fun σ => WE W σ) tas) ss F P PE := fun σ G o Q q hX => h σ G o _ fun vs ds G' F' g r p => ⟨G', F', ds, P, PE, rfl, g.dj, g.gG, g.gF, r, p, q.gr g, (hX σ (by rw [o.sg.1, hl])).gr g⟩
theorem EvW.meth {p C dx : Addr} {fs : List (Str × V)} {m : Str} (hl : ss.length = L) (ha : EvD K ta ss (.m p)) (hF : F p = some (.ins C dx fs)) (hm : fs.lookup m = none) (hs : EvA K tas ss F fun ds F' => Φ (.m p :: ds) F' P PE) : EvW K L W (tMethE C m (PDX K Φ) (fun σ => WE W σ) ta tas) ss F P PE := fun σ G o Q go gx => ha.at o fun x G1 g1 rx => by
  obtain rfl := rx.m_inv
  have hG : G1 p = none := (g1.dj p).resolve_right fun z => by rw [hF] at z; cases z
  exact ⟨p, dx, fs, rfl, by rw [joi_r hG]; exact hF, hm, hs σ G1 (o.gr g1) _ fun vs ds G2 F2 g2 rs hΦ => ⟨G2, F2, _, P, PE, rfl, g2.dj, g2.gG, g2.gF, .cons (.m p) rs, hΦ, go.gr (g1.trans g2), (gx σ (by rw [o.sg.1, hl])).gr (g1.trans g2)⟩⟩
theorem EvW.pair {x : Str} (h : EvW K L W te ss F (fun d F' => P (.t [.s x, d]) F') PE) : EvW K L W (tTup (tCons (tC (.str x)) (tCons te tNil))) ss F P PE := fun σ G o Q go gx => h σ G o _ (fun v d G1 F1 g1 rv q => ⟨by rw [sizeLine_eq]; simp, fun p hp => by
  have g2 : Gr G1 (upd G1 p (.tup [.str x, v])) F1 := .new g1.dj g1.gG g1.gF hp
  rw [joi_new]
  have rs : RepL K (upd G1 p (.tup [.str x, v])) [.str x, v] [.s x, d] := .cons (.s x) (.cons (rv.same g2.sm) .nil)
  exact go _ _ _ _ (g1.trans g2) (.t (.inl (.of upd_same)) rs.1 rs.2) q⟩) gx
/-- the law's try: the body may raise, the suite tells the refusal -/
theorem RnF.tryRef {i : Nat} {c : Value} {tb : WX → TS} {Wout : WX} (hi : i < ss.length) (gF0 : Good F) (hb : ∀ W, RnW K ss.length W (tb W) ss F N R PE)
    (hx : ∀ x fs F', PE x fs F' → PySem.W.exmOne K (.ref (He.ga K x)) c = some true ∧ XOk x fs ∧ R (errD x (refF x fs)) F') :
    RnF K (tTryR K c i (fun a cls d => tRet (tCallX a cls d (spRef K) (tCons (tVar i) tNil))) tb Wout) ss F N R := fun σ G o D nx rt => by
  refine hb _ σ G o D nx rt fun σ' hl x fs G' F' d H' g pe xh => ?_
  obtain ⟨h1, h2, h3⟩ := hx x fs F' pe
  refine ⟨true, h1, fun _ a ha => ?_, fun z => by cases z⟩
  refine ⟨.ref a, ?_, fun oe hz hf => ?_⟩
  · rw [List.getElem?_set, if_pos rfl, if_pos (by omega)]
  rcases xh with ⟨e1, e2, e3⟩ | ⟨dd, e1, hd, e3⟩
  · refine ⟨a, oe, x, d, fs, G', F', rfl, rfl, hz, hf, e3, g.dj, g.gG, g.gF, .inl ⟨e1, e2⟩, h2, fun r dr G2 F2 g2 rr ⟨er, eF⟩ => ?_⟩
    subst er eF
    exact rt r _ G2 _ (g.trans g2) rr h3
  · obtain ⟨hG, hF⟩ := joi_none hd
    have g0 : Gr G' G' (upd F' dd (.xd fs)) := .newF g.dj g.gG g.gF hd
    refine ⟨a, oe, x, d, fs, G', upd F' dd (.xd fs), rfl, rfl, hz, hf, by rw [e3, joi_put hG], g0.dj, g0.gG, g0.gF, .inr ⟨dd, e1, upd_same⟩, h2, fun r dr G2 F2 g2 rr ⟨er, eF⟩ => ?_⟩
    subst er eF
    have hG2 : G2 dd = none := (g2.dj dd).resolve_right fun z => by rw [upd_same] at z; cases z
    have g3 : Gr G2 (upd G2 dd (.xd fs)) F' := .ice g2.dj g2.gG g.gF hF
    rw [joi_ice hG2]
    refine rt r _ _ F' (g.trans ⟨g2.sm.trans g3.sm, g3.dj, g3.gG, g3.gF⟩) (rr.same g3.sm) h3
end
end Lay
end
section
set_option Elab.async false
set_option linter.all false
set_option autoImplicit false
set_option maxRecDepth 100000
set_option maxHeartbeats 4000000
namespace Lay
open PySem PySem.Spec PyProof.Rows L2


def ph_told (KK : PySem.W.Frag) : Ph := fun ds F P => ∃ d A D n k r steps, ∃ j : Nat, ∃ x ops, ds = [.m d, deedD x ops] ∧ DkP KK F d A D ∧ Inv n k r D steps j ∧ DeedOk x ops ∧
  ∀ F' A' D' steps' j', DkP KK F' d A' D' → Inv n k r D' steps' j' → (dueB k r (pastP n steps) j (preF steps j) (runS (St0 n) (preF steps j)) x ops).2 = (pastP n steps', j') → P (dueB k r (pastP n steps) j (preF steps j) (runS (St0 n) (preF steps j)) x ops).1 F'
theorem bo_ok {D : Dk} {op ix : Int} {e : Str × List (Str × V)} (h : jd D op ix = some e) : XOk e.1 e.2 := by
  unfold jd at h
  split at h
  · cases h; exact .inl ⟨rfl, _, _, rfl⟩
  split at h
  · cases h; exact .inr (.inl ⟨rfl, _, _, rfl⟩)
  split at h
  · cases h; exact .inr (.inr (.inl ⟨rfl, _, _, _, rfl⟩))
  split at h
  · cases h; exact .inr (.inr (.inr (.inl ⟨rfl, _, rfl⟩)))
  · cases h
theorem perf_ok : ∀ (ops : List Int) (D : Dk) (i : Nat) (e : Str × List (Str × V)), (perf D ops i).2 = some e → XOk e.1 e.2
  | [], D, i, e, h => by cases h
  | op :: ops, D, i, e, h => by
    unfold perf at h
    cases q : jd D op i with
    | some z => rw [q] at h; cases h; exact bo_ok q
    | none => rw [q] at h; exact perf_ok ops _ _ e h
theorem att_ok {D : Dk} {ops : List Int} {e : Str × List (Str × V)} (h : (att D ops).2 = some e) : XOk e.1 e.2 := by
  unfold att at h
  cases q : (perf D ops 0).2 with
  | some z => rw [q] at h; cases h; exact perf_ok ops D 0 _ q
  | none => rw [q] at h; cases h
/-- do is an attempt of one -/
theorem att_one {D : Dk} {op : Int} : att D [op] = match jd D op 0 with
    | some e => (D, some e)
    | none => (cl (wr D op) D.log.length, none) := by
  unfold att perf
  have h0 : ((0 : Nat) : Int) = 0 := rfl
  rw [h0]
  cases jd D op 0 <;> rfl
/-- what due says of an attempt -/
theorem due_att {n k r : Int} {D : Dk} {steps : List (List Int)} {j : Nat} (I : Inv n k r D steps j) {x : Str} {ops : List Int} (hx : x ≠ "undo") (hy : x ≠ "redo") :
    (∀ e, (att D ops).2 = some e → (att D ops).1 = D ∧ dueB k r (pastP n steps) j (preF steps j) (runS (St0 n) (preF steps j)) x ops = (errD e.1 (refF e.1 e.2), pastP n steps, j)) ∧
    ((att D ops).2 = none → ∃ steps' j', Inv n k r (att D ops).1 steps' j' ∧ dueB k r (pastP n steps) j (preF steps j) (runS (St0 n) (preF steps j)) x ops = (doneD (if x = "do" then .n else .i ops.length), pastP n steps', j')) := by
  obtain ⟨h1, h2, h3⟩ := I.att ops
  unfold dueB
  rw [if_neg hx, if_neg hy]
  constructor
  · intro e he
    rw [he] at h1
    refine ⟨h2 (by rw [he]; simp), ?_⟩
    rw [← h1]
    rfl
  · intro hn
    rw [hn] at h1
    obtain ⟨h4, h5⟩ := h3 hn
    refine ⟨_, _, h5, ?_⟩
    rw [← h1, h4]
    by_cases ho : ops = []
    · simp only [if_pos ho]; rfl
    · simp only [if_neg ho]
      rw [pastP_add I.jl]
      rfl
section
variable {w : World} {K : PySem.W.Frag} {mg : Str → Option Value} {base : Heap}
theorem xm_ok (T : TX K mg) {x : Str} {fs : List (Str × V)} (h : XOk x fs) : PySem.W.exmOne K (.ref (He.ga K x)) (.ref (He.ga K "LinkError")) = some true := by
  rcases h with ⟨rfl, _⟩ | ⟨rfl, _⟩ | ⟨rfl, _⟩ | ⟨rfl, _⟩ | ⟨rfl, _⟩ | ⟨rfl, _⟩
  · exact xm_BadOperation T
  · exact xm_Illegal T
  · exact xm_Refused T
  · exact xm_Full T
  · exact xm_NothingToUndo T
  · exact xm_NothingToRedo T

theorem ok_ulaw_told (T : TX K mg) : FnR PW w K mg base CX0 22 (gA "_law_told" K) (PD K (ph_told K)) := by
  obtain ⟨fd, F⟩ := f_ulaw_told T
  refine fnD_of F n_ulaw_told (F.bindsN fun _ _ _ _ _ _ us hl => match us, hl with | [_, _], _ => rfl) (fun ds F P ⟨_, _, _, _, _, _, _, _, _, _, e, _⟩ => by rw [e]; rfl) fun cdv A outer s H E hr => ⟨_, PSs.nox
    (pss_one (ps_tryR K (i := 2) rfl rfl n_ulaw_told.nd rfl rfl ⟨rfl, by decide, Or.inl (g_LinkError T)⟩ takes0
      (fun W pn xe tk _ => pss_cons (ps_if (pt_cmpR op_eq (pe_ix (ixt K) (pv 1) pe_int (fun _ _ => rfl)) pe_str (nomark _)) (pss_one (ps_ret (pe_tup (pa_cons pe_str (pa_cons (pe_methE0 (pv 0) (c_Desk T) (m_Desk_undo T) (okx_Desk_undo T) (hr.mono (by decide)) (fun σ => passAt tk σ)) pa_nil))))) pss_nil)
        (pss_cons (ps_if (pt_cmpR op_eq (pe_ix (ixt K) (pv 1) pe_int (fun _ _ => rfl)) pe_str (nomark _)) (pss_one (ps_ret (pe_tup (pa_cons pe_str (pa_cons (pe_methE0 (pv 0) (c_Desk T) (m_Desk_redo T) (okx_Desk_redo T) (hr.mono (by decide)) (fun σ => passAt tk σ)) pa_nil))))) pss_nil)
        (pss_cons (ps_if (pt_cmpR op_eq (pe_ix (ixt K) (pv 1) pe_int (fun _ _ => rfl)) pe_str (nomark _)) (pss_one (ps_ret (pe_tup (pa_cons pe_str (pa_cons (pe_methE (pv 0) (c_Desk T) (m_Desk_do T) (okx_Desk_do T) (hr.mono (by decide)) (fun σ => passAt tk σ) (pa_cons (pe_ix (ixl K) (pe_ix (ixt K) (pv 1) pe_int (fun _ _ => rfl)) pe_int (fun _ _ => rfl)) pa_nil)) pa_nil))))) pss_nil)
        (pss_one (ps_ret (pe_tup (pa_cons pe_str (pa_cons (pe_callR (okx_ulaw_attempts T) (hr.mono (by decide)) rfl (g_ulaw_attempts T) (k_ulaw_attempts T) (fun σ => passAt tk σ) (pa_cons (pv 0) (pa_cons (pe_ix (ixt K) (pv 1) pe_int (fun _ _ => rfl)) pa_nil))) pa_nil))))))))
      (fun a oe cls d pn hz hf => pss_one (ps_ret (pe_callX hz hf (okA_ulaw_refusal T) (L2H.roomH_of (hr.mono (by decide))) rfl (g_ulaw_refusal T) (k_ulaw_refusal T) (pa_cons (pv 2) pa_nil)))))), fun ds F P h gF => ?_⟩
  obtain ⟨d, A, D, n, k, r, steps, j, x, ops, rfl, hD, I, hok, hP⟩ := h
  have hw := I.dkw
  refine RnF.tryRef (i := 2) (ss := [some (.m d), some (deedD x ops), none]) (by show 2 < 3; decide) gF (fun W => ?_) (PE := fun x fs F' => XOk x fs ∧ P (errD x (refF x fs)) F') (fun x fs F' ⟨h1, h2⟩ => ⟨xm_ok T h1, h1, h2⟩)
  refine .seq (.ifB (.test (.eqS (.ixT (.var rfl) .int rfl) .str)) (fun hx => ?_) (fun hx => .nil ?_))
  · have hx := of_decide_eq_true hx
    subst hx
    refine .ret (.pair (.meth rfl (.var rfl) hD.od rfl (.eva .nil ⟨d, A, D, rfl, hD, hw, fun h0 => ⟨.inr (.inr (.inr (.inr (.inl ⟨rfl, rfl⟩)))), ?_⟩, fun sts y hs => ?_⟩)))
    · have hj := I.start0.mp h0
      subst hj
      exact hP F A D steps 0 hD I rfl
    · obtain ⟨j0, hy, hl, hR, I2⟩ := I.undo hs
      refine ⟨_, _, hy, hl, hR, fun F' A' hD' => ?_⟩
      have e : dueB k r (pastP n steps) j (preF steps j) (runS (St0 n) (preF steps j)) "undo" ops = (doneD .n, pastP n steps, j - 1) := by
        unfold dueB
        rw [if_pos rfl, if_neg (by omega)]
      have z := hP F' A' _ steps (j - 1) hD' I2 (by rw [e])
      rw [e] at z
      exact z
  refine .seq (.ifB (.test (.eqS (.ixT (.var rfl) .int rfl) .str)) (fun hy => ?_) (fun hy => .nil ?_))
  · have hy := of_decide_eq_true hy
    subst hy
    refine .ret (.pair (.meth rfl (.var rfl) hD.od rfl (.eva .nil ⟨d, A, D, rfl, hD, hw, fun h0 => ⟨.inr (.inr (.inr (.inr (.inr ⟨rfl, rfl⟩)))), ?_⟩, fun us ys hs => ?_⟩)))
    · have hj := I.und0.mp h0
      have e : dueB k r (pastP n steps) j (preF steps j) (runS (St0 n) (preF steps j)) "redo" ops = (errD "NothingToRedo" [], pastP n steps, j) := by
        unfold dueB
        rw [if_neg (by decide), if_pos rfl, if_pos (by rw [pastP_len]; omega)]
      have z := hP F A D steps j hD I (by rw [e])
      rw [e] at z
      exact z
    · obtain ⟨hjl, hz, hR, I2⟩ := I.redo hs
      refine ⟨hz, _, hR, fun F' A' hD' => ?_⟩
      have e : dueB k r (pastP n steps) j (preF steps j) (runS (St0 n) (preF steps j)) "redo" ops = (doneD .n, pastP n steps, j + 1) := by
        unfold dueB
        rw [if_neg (by decide), if_pos rfl, if_neg (by rw [pastP_len]; omega)]
      have z := hP F' A' _ steps (j + 1) hD' I2 (by rw [e])
      rw [e] at z
      exact z
  have hx := of_decide_eq_false hx
  have hy := of_decide_eq_false hy
  obtain ⟨hA, hB⟩ := due_att I (ops := ops) hx hy
  refine .seq (.ifB (.test (.eqS (.ixT (.var rfl) .int rfl) .str)) (fun hz => ?_) (fun hz => .nil ?_))
  · have hz := of_decide_eq_true hz
    have hl : ops.length = 1 := by
      rcases hok with ⟨h, _⟩ | ⟨h, _⟩ | ⟨_, h⟩ | ⟨h, _⟩
      · exact absurd h hx
      · exact absurd h hy
      · exact h
      · rw [h] at hz; exact absurd hz (by decide)
    obtain ⟨op, rfl⟩ := len_is1 hl
    rw [att_one] at hA hB
    refine .ret (.pair (.meth rfl (.var rfl) hD.od rfl (.eva (.cons (.ixL (.ixT (.var rfl) .int rfl) .int rfl) .nil) ⟨d, A, D, op, rfl, hD, hw, fun e he => ⟨bo_ok he, ?_⟩, fun hn F' A' hD' => ?_⟩)))
    · rw [he] at hA
      have e2 := (hA e rfl).2
      have z := hP F A D steps j hD I (by rw [e2])
      rw [e2] at z
      exact z
    · rw [hn] at hB
      obtain ⟨steps', j', I2, e2⟩ := hB rfl
      have z := hP F' A' _ steps' j' hD' I2 (by rw [e2])
      rw [e2, if_pos hz] at z
      exact z
  · have hz := of_decide_eq_false hz
    have hl : ops.length ≤ 9 := by
      rcases hok with ⟨h, _⟩ | ⟨h, _⟩ | ⟨h, _⟩ | ⟨_, h⟩
      · exact absurd h hx
      · exact absurd h hy
      · exact absurd h hz
      · exact h
    refine .ret (.pair (.call rfl (.eva (.cons (.var rfl) (.cons (.ixT (.var rfl) .int rfl) .nil)) ⟨d, A, D, ops, rfl, hl, hD, hw, fun F' A' hD' => ⟨fun e he => ⟨att_ok he, ?_⟩, fun hn => ?_⟩⟩)))
    · obtain ⟨e1, e2⟩ := hA e he
      rw [e1] at hD'
      have z := hP F' A' D steps j hD' I (by rw [e2])
      rw [e2] at z
      exact z
    · obtain ⟨steps', j', I2, e2⟩ := hB hn
      have z := hP F' A' _ steps' j' hD' I2 (by rw [e2])
      rw [e2, if_neg hz] at z
      exact z

end
end Lay
end
section
set_option Elab.async false
set_option linter.all false
set_option autoImplicit false
set_option maxRecDepth 100000
set_option maxHeartbeats 4000000
/-! own layer W: an instance made with keywords -/
namespace Lay
open PySem PySem.Spec PyProof.Rows L2
section
variable {K : PySem.W.Frag} {ss : List (Option DV)} {F : Hp} {P : DV → Hp → Prop} {ds es : List DV} {tas tk : TA} {Φ : Ph}
theorem EvF.makeV {C : Str} {E : XK} {dvs : List V} (hf : ∀ v ∈ dvs, flat0 v) (hs : EvA K tas ss F fun ds F' => ∀ x dx, F' x = none → F' dx = none → dx ≠ x → Φ (.m x :: (ds ++ dvs.map up)) (upd (upd F' dx (.own x)) x (.ins (He.ga K C) dx [])) fun d F2 => d = .n ∧ P (.m x) F2) : EvF K (tMake (He.ga K C) (PD K Φ) dvs E tas) ss F P := fun σ G o Q go => hs σ G o _ fun vs ds G1 F1 g1 rs h => fun x dx hx hd ne => by
  have h1 := joi_none hx
  have h2 := joi_none hd
  have gr : Gr G1 G1 (upd (upd F1 dx (.own x)) x (.ins (He.ga K C) dx [])) := ⟨Same.refl _, fun b => by
    by_cases hb : b = x
    · subst hb; exact .inl h1.1
    · rw [upd_ne hb]
      by_cases hb2 : b = dx
      · subst hb2; exact .inl h2.1
      · rw [upd_ne hb2]; exact g1.dj b, g1.gG, g1.gF.made h1.2 h2.2 ne⟩
  refine ⟨G1, _, _, _, ?_, gr.dj, g1.gG, gr.gF, .cons (.m x) (rs.append (.flat hf)), h x dx h1.2 h2.2 ne, fun v d G' F' g rv ⟨e, p⟩ => ?_⟩
  · rw [joi_put h2.1, joi_put h1.1]
  · subst e
    exact ⟨rv.non_inv, go _ (.m x) G' F' (g1.trans ⟨g.sm, g.dj, g.gG, g.gF⟩) (.m x) p⟩
theorem EvF.makeK {C : Str} {E : XK} {n m : Nat} {gV : List V → List V → List V} {gD : DV → List DV} (h1 : EvAs K tas ss ds) (h2 : EvAs K tk ss es) (l1 : ds.length = n) (l2 : es.length = m)
    (hg : ∀ G x vs zs, RepL K G vs ds → RepL K G zs es → RepL K G (gV (.ref x :: vs) zs) (gD (.m x)))
    (hs : ∀ x dx, F x = none → F dx = none → dx ≠ x → Φ (gD (.m x)) (upd (upd F dx (.own x)) x (.ins (He.ga K C) dx [])) fun d F2 => d = .n ∧ P (.m x) F2) : EvF K (tMakeK (He.ga K C) n m (PD K Φ) gV E tas tk) ss F P := fun σ G o Q go =>
  h1.at o fun vs G1 g1 rs => h2.at (o.gr g1) fun zs G2 g2 rz => ⟨by rw [rs.1, l1], by rw [rz.1, l2], fun x dx hx hd ne => by
  have h1 := joi_none hx
  have h2 := joi_none hd
  have gr : Gr G2 G2 (upd (upd F dx (.own x)) x (.ins (He.ga K C) dx [])) := ⟨Same.refl _, fun b => by
    by_cases hb : b = x
    · subst hb; exact .inl h1.1
    · rw [upd_ne hb]
      by_cases hb2 : b = dx
      · subst hb2; exact .inl h2.1
      · rw [upd_ne hb2]; exact g2.dj b, g2.gG, g2.gF.made h1.2 h2.2 ne⟩
  refine ⟨G2, _, _, _, ?_, gr.dj, g2.gG, gr.gF, hg G2 x vs zs (rs.same g2.sm) rz, hs x dx h1.2 h2.2 ne, fun v d G' F' g rv ⟨e, p⟩ => ?_⟩
  · rw [joi_put h2.1, joi_put h1.1]
  · subst e
    exact ⟨rv.non_inv, go _ (.m x) G' F' ((g1.trans g2).trans ⟨g.sm, g.dj, g.gG, g.gF⟩) (.m x) p⟩⟩
end
section
variable {K : PySem.W.Frag} {fd : FuncData}
theorem kb_desk_m (F : FunD K dl_Desk_init.name dl_Desk_init.qual dl_Desk_init.params dl_Desk_init.body dl_Desk_init.scope [] dl_Desk_init.kwd (dl_Desk_init.adr K) fd) : ∃ mv : List Value, KBn K fd ["self", "size", "mode", "capacity"] (1 + 1) ["mode"] (fun us ws => us ++ (ws ++ mv)) (fun vs zs => vs ++ (zs ++ [V.int 200])) :=
  F.kbinds0 2 ["mode"] [("capacity", .int 200)] (fun us mz zs => us ++ (zs ++ mz)) (by simp [dl_Desk_init]) (by simp [dl_Desk_init]) (fun r1 r2 r3 => r1.append (r3.append r2)) fun D doc pm an cdv ct us mv ws h1 h2 h3 => match us, h1, mv, h2, ws, h3 with
    | [_, _], _, [_], _, [_], _ => ⟨_, _, _, _, _, _, rfl, rfl, rfl⟩
theorem kb_desk_c (F : FunD K dl_Desk_init.name dl_Desk_init.qual dl_Desk_init.params dl_Desk_init.body dl_Desk_init.scope [] dl_Desk_init.kwd (dl_Desk_init.adr K) fd) : ∃ mv : List Value, KBn K fd ["self", "size", "mode", "capacity"] (1 + 1) ["capacity"] (fun us ws => us ++ (mv ++ ws)) (fun vs zs => vs ++ ([V.str "free"] ++ zs)) :=
  F.kbinds0 2 ["capacity"] [("mode", .str "free")] (fun us mz zs => us ++ (mz ++ zs)) (by simp [dl_Desk_init]) (by simp [dl_Desk_init]) (fun r1 r2 r3 => r1.append (r2.append r3)) fun D doc pm an cdv ct us mv ws h1 h2 h3 => match us, h1, mv, h2, ws, h3 with
    | [_, _], _, [_], _, [_], _ => ⟨_, _, _, _, _, _, rfl, rfl, rfl⟩
theorem kb_desk_mc (F : FunD K dl_Desk_init.name dl_Desk_init.qual dl_Desk_init.params dl_Desk_init.body dl_Desk_init.scope [] dl_Desk_init.kwd (dl_Desk_init.adr K) fd) : ∃ mv : List Value, KBn K fd ["self", "size", "mode", "capacity"] (1 + 1) ["mode", "capacity"] (fun us ws => us ++ (mv ++ ws)) (fun vs zs => vs ++ ([] ++ zs)) :=
  F.kbinds0 2 ["mode", "capacity"] [] (fun us mz zs => us ++ (mz ++ zs)) (by simp [dl_Desk_init]) (by simp) (fun r1 r2 r3 => r1.append (r2.append r3)) fun D doc pm an cdv ct us mv ws h1 h2 h3 => match us, h1, mv, h2, ws, h3 with
    | [_, _], _, [], _, [_, _], _ => rfl
end
end Lay
end
section
set_option Elab.async false
set_option linter.all false
set_option autoImplicit false
set_option maxRecDepth 100000
set_option maxHeartbeats 4000000
namespace Lay
open PySem PySem.Spec PyProof.Rows L2


def ph_ldesk (KK : PySem.W.Frag) : Ph := fun ds F P => ∃ n k r : Int, ds = [.i n, .i k, .i r] ∧ 0 ≤ n ∧ n ≤ 60 ∧ 0 ≤ k ∧ k ≤ 3 ∧ 1 ≤ r ∧ r ≤ 2000 ∧ ∀ d F' A, DkP KK F' d A ⟨n, r, k, [], [], St0 n, []⟩ → P (.m d) F'
section
variable {w : World} {K : PySem.W.Frag} {mg : Str → Option Value} {base : Heap}

theorem ok_ulaw_desk (T : TX K mg) : FnR PW w K mg base CX0 6 (gA "_law_desk" K) (PD K (ph_ldesk K)) := by
  obtain ⟨fd, F⟩ := f_ulaw_desk T
  obtain ⟨fdI, FI⟩ := f_Desk_init T
  obtain ⟨d0, hd0, hb0⟩ := bind_desk0 T FI
  obtain ⟨m1, kb1⟩ := kb_desk_m FI
  obtain ⟨m2, kb2⟩ := kb_desk_c FI
  obtain ⟨m3, kb3⟩ := kb_desk_mc FI
  refine fnD_of F n_ulaw_desk (F.bindsN fun _ _ _ _ _ _ us hl => match us, hl with | [_, _, _], _ => rfl) (fun ds F P ⟨_, _, _, e, _⟩ => by rw [e]; rfl) fun cdv A outer s H E hr => ⟨_, PSs.nox
    (pss_cons (ps_set (i := 3) n_ulaw_desk.nd rfl (by first | exact .inl rfl | exact .inr rfl) (pe_ix ix_list (pe_callR0 (ok_ulaw_names T) (hr.mono (by decide)) rfl (g_ulaw_names T) (k_ulaw_names T) at0) (pv 1) (fun _ _ => rfl)))
      (pss_cons (ps_if (PW.pt (pw_and (pt_cmpR op_eq (pv 2) pe_int (nomark _)) (pw_and1 (pt_cmpR op_eq (pv 1) pe_int (nomark _))))) (pss_one (ps_ret (pe_make (mk_Desk T) (okk_Desk_init T FI) (hr.mono (by decide)) rfl (g_Desk T) hb0 hd0 pass0 (pa_cons (pv 0) pa_nil)))) pss_nil)
      (pss_cons (ps_if (pt_cmpR op_eq (pv 2) pe_int (nomark _)) (pss_one (ps_ret (pe_makeK (mk_Desk T) (okk_Desk_init T FI) (hr.mono (by decide)) rfl (g_Desk T) kb1 pass0 (pa_cons (pv 0) pa_nil) (pk_cons (pv 3) pk_nil)))) pss_nil)
      (pss_cons (ps_if (pt_cmpR op_eq (pv 1) pe_int (nomark _)) (pss_one (ps_ret (pe_makeK (mk_Desk T) (okk_Desk_init T FI) (hr.mono (by decide)) rfl (g_Desk T) kb2 pass0 (pa_cons (pv 0) pa_nil) (pk_cons (pv 2) pk_nil)))) pss_nil)
      (pss_one (ps_ret (pe_makeK (mk_Desk T) (okk_Desk_init T FI) (hr.mono (by decide)) rfl (g_Desk T) kb3 pass0 (pa_cons (pv 0) pa_nil) (pk_cons (pv 3) (pk_cons (pv 2) pk_nil))))))))), fun ds F P h gF => ?_⟩
  obtain ⟨n, k, r, rfl, n0, n1, k0, k1, r0, r1, hP⟩ := h
  have hk : atI (([0, 1, 2, 3] : List Int).map fun k => DV.s (modeN k)) k = some (.s (modeN k)) := by
    rcases (by omega : k = 0 ∨ k = 1 ∨ k = 2 ∨ k = 3) with rfl | rfl | rfl | rfl <;> rfl
  refine .seq (.asg (.evf (.ixL (.call .nil ⟨rfl, rfl⟩) (.var rfl) hk) ?_))
  refine .seq (.ifB (.and (.test (.eqI (.var rfl) .int)) (fun _ => .test (.eqI (.var rfl) .int))) (fun h => ?_) (fun h => .nil ?_))
  · simp only [Bool.and_eq_true, decide_eq_true_eq] at h
    obtain ⟨rfl, rfl⟩ := h
    refine .ret (EvF.makeV (fun v hv => ?_) (.eva (.cons (.var rfl) .nil) fun x dx hx hd ne => ⟨x, dx, n, 0, 200, rfl, upd_same, n0, n1, k0, k1, r0, r1, fun F2 A hD _ => ⟨rfl, hP x F2 A hD⟩⟩))
    rcases List.mem_cons.mp hv with h | h
    · rw [h]; exact True.intro
    · rw [List.mem_singleton.mp h]; exact True.intro
  refine .seq (.ifB (.test (.eqI (.var rfl) .int)) (fun h2 => ?_) (fun h2 => .nil ?_))
  · have h2 := of_decide_eq_true h2
    subst h2
    exact .ret (EvF.makeK (gD := fun x => [x, .i n, .s (modeN k), .i 200]) (.cons (.var rfl) .nil) (.cons (.var rfl) .nil) rfl rfl (fun G x vs zs h1 h2 => (RepL.cons (.m x) h1).append (h2.append (.cons (.i 200) .nil))) fun x dx hx hd ne => ⟨x, dx, n, k, 200, rfl, upd_same, n0, n1, k0, k1, r0, r1, fun F2 A hD _ => ⟨rfl, hP x F2 A hD⟩⟩)
  refine .seq (.ifB (.test (.eqI (.var rfl) .int)) (fun h3 => ?_) (fun h3 => .nil ?_))
  · have h3 := of_decide_eq_true h3
    subst h3
    exact .ret (EvF.makeK (gD := fun x => [x, .i n, .s (modeN 0), .i r]) (.cons (.var rfl) .nil) (.cons (.var rfl) .nil) rfl rfl (fun G x vs zs h1 h2 => (RepL.cons (.m x) h1).append ((RepL.cons (.s "free") .nil).append h2)) fun x dx hx hd ne => ⟨x, dx, n, 0, r, rfl, upd_same, n0, n1, k0, k1, r0, r1, fun F2 A hD _ => ⟨rfl, hP x F2 A hD⟩⟩)
  exact .ret (EvF.makeK (gD := fun x => [x, .i n, .s (modeN k), .i r]) (.cons (.var rfl) .nil) (.cons (.var rfl) (.cons (.var rfl) .nil)) rfl rfl (fun G x vs zs h1 h2 => (RepL.cons (.m x) h1).append (RepL.nil.append h2)) fun x dx hx hd ne => ⟨x, dx, n, k, r, rfl, upd_same, n0, n1, k0, k1, r0, r1, fun F2 A hD _ => ⟨rfl, hP x F2 A hD⟩⟩)


end
end Lay
end
section
set_option Elab.async false
set_option linter.all false
set_option autoImplicit false
set_option maxRecDepth 100000
set_option maxHeartbeats 4000000
/-! own layer Z: properties read by a positional promise; what is new goes over to G; what exact takes -/
namespace Lay
open PySem PySem.Spec PyProof.Rows L2
section
variable {X : Cx} {k : Nat} {C p g a dx : Addr} {fs : List (Str × V)} {f : Str} {sp : Sp} {e : Expr} {pos : Pos} {ta : TE}
/-- e.f, a property whose getter has a positional promise -/
theorem pe_propR (he : PE X e ta) (c : Cls X.K C) (hp : PropOf X.K C f p g) (F : FnR X.prog X.w X.K X.mg X.base CX0 k g sp) (hr : Room (k + 1) X.A) (hab : attributeBase e f X.env (eval e X.env) = eval e X.env := by rfl) : PE X (.Attribute e f pos) (tProp C sp [] E0 ta) := by
  refine ⟨fun pins s σ H Q I h => attr_of hab (thn (he.run pins s σ H _ I h) fun u s1 ⟨x, H1, I1, rx, a, dx, fs, ex, ea, q⟩ => ?_)⟩
  subst ex
  obtain rfl : u = Value.ref a := rx
  obtain ⟨mA, O, _, _, _, _⟩ := ins_get I1.hok ea
  obtain ⟨od, J, _⟩ := O.look
  obtain ⟨rest, hrec⟩ := hp.rec_
  have I2 := I1.tok (s1.toks + 1)
  have hc : (PySem.W.clsIn X.K C).isSome = true := by
    obtain ⟨cd, hc, _⟩ := PySem.W.any_some c.hd
    exact hc ▸ rfl
  have G1 := PySem.W.plainGet_of (c.get f)
  refine PySem.W.get_bind I1.kIn J G1.1 (PySem.W.findObj_data hc hp.at_ hp.get hp.tak) G1.2 (wpAny_call (PySem.W.prop_get (s := { s1 with toks := s1.toks + 1 }) I1.kIn hrec (codeAny_mono (F X.A.in1 X.stack _ H1 [.ref a] [.ref a] Q E0 hr.in1 I2.env0.in1 (.cons rfl .nil) q) fun r s' hq => ?_)))
  cases r with
  | error er => exact hq.elim
  | ok fl =>
    cases fl with
    | ret u =>
      obtain ⟨v, H', I3, rv, q3⟩ := I2.after hq
      show wpAny _ _ (handedOut u) _ _ _
      rw [PySem.W.handedOut_of (handed_of rv)]
      exact wpAny_pure ⟨v, H', I3, rv, q3⟩
    | next => exact hq.elim
    | brk => exact hq.elim
    | cont => exact hq.elim
end
section
variable {K : PySem.W.Frag} {te ta : TE} {ts : TS} {tt : TT} {ss : List (Option DV)} {F : Hp} {P : DV → Hp → Prop} {N : List (Option DV) → Hp → Prop} {R : DV → Hp → Prop} {PB : Bool → Hp → Prop} {Φ : Ph}
theorem EvF.prop {p C dx : Addr} {fs : List (Str × V)} (ha : EvD K ta ss (.m p)) (hF : F p = some (.ins C dx fs)) (h : Φ [.m p] F P) : EvF K (tProp C (PD K Φ) [] E0 ta) ss F P := fun σ G o Q go => ha.at o fun x G1 g1 rx => by
  obtain rfl := rx.m_inv
  have hG : G1 p = none := (g1.dj p).resolve_right fun z => by rw [hF] at z; cases z
  exact ⟨p, dx, fs, rfl, by rw [joi_r hG]; exact hF, G1, F, [.m p], P, rfl, g1.dj, g1.gG, g1.gF, .cons (.m p) .nil, h, go.gr g1⟩
/-- what the standing F is known to be -/
theorem EvF.good (h : Good F → EvF K te ss F P) : EvF K te ss F P := fun σ G o Q go => h o.gF σ G o Q go
theorem RnF.good (h : Good F → RnF K ts ss F N R) : RnF K ts ss F N R := fun σ G o D nx rt => h o.gF σ G o D nx rt
/-- a new list goes over to G -/
theorem EvF.iceL (h : EvF K te ss F fun d F' => ∃ p vs ds, F p = none ∧ d = .m p ∧ F' = upd F p (.lst vs) ∧ (∀ G, RepL K G vs ds) ∧ P (.l ds) F) : EvF K te ss F P := fun σ G o Q go =>
  h σ G o _ fun v d G' F' g r ⟨p, vs, ds, hp, ed, eF, hr, q⟩ => by
    subst ed eF
    obtain rfl := r.m_inv
    have hG : G' p = none := (g.dj p).resolve_right fun z => by rw [upd_same] at z; cases z
    have g2 : Gr G' (upd G' p (.lst vs)) F := .ice g.dj g.gG o.gF hp
    rw [joi_ice hG]
    exact go _ _ _ F (g.trans g2) (.l upd_same (hr (upd G' p (.lst vs))).1 (hr (upd G' p (.lst vs))).2) q
/-- new objects beside F go over to G -/
theorem EvF.iceJ (h : EvF K te ss F fun d F' => ∃ p F0 dd, d = .m p ∧ F' = joi F F0 ∧ Disj F F0 ∧ Good F0 ∧ Rep K F0 (.ref p) dd ∧ P dd F) : EvF K te ss F P := fun σ G o Q go =>
  h σ G o _ fun v d G' F' g r ⟨p, F0, dd, ed, eF, dj, g0, rr, q⟩ => by
    subst ed eF
    obtain rfl := r.m_inv
    have d0 : Disj G' F0 := fun b => by
      rcases g.dj b with z | z
      · exact .inl z
      · exact .inr (joi_none z).2
    have d1 : Disj (joi G' F0) F := fun b => by
      rcases g.dj b with z | z
      · rcases dj b with y | y
        · exact .inr y
        · exact .inl (by rw [joi_r z, y])
      · exact .inr (joi_none z).1
    have e : joi G' (joi F F0) = joi (joi G' F0) F := by rw [joi_comm dj, joi_assoc]
    rw [e]
    exact go _ dd _ F ⟨g.sm.trans same_joi, d1, g.gG.joi g0 d0, o.gF⟩ (rr.same (same_joi_r d0)) q
end
theorem LkP.put {K : PySem.W.Frag} {F : Hp} {a dx l r f q : Addr} {s : St} {o : HO} (h : LkP K F a dx l r f s) (qa : a ≠ q) (ql : l ≠ q) (qr : r ≠ q) (qf : f ≠ q) : LkP K (upd F q o) a dx l r f s :=
  ⟨by rw [upd_ne qa]; exact h.oa, by rw [upd_ne ql]; exact h.ol, by rw [upd_ne qr]; exact h.or, by rw [upd_ne qf]; exact h.of, h.lr, h.lf, h.rf⟩
theorem same_put {F F' : Hp} {q : Addr} {o : HO} (h : Same F F') (hq : F q = none) : Same F (upd F' q o) := fun b u e => by
  rw [upd_ne fun z => by rw [z, hq] at e; cases e]
  exact h b u e
/-! ### what exact takes -/
structure ExO (d : DV) : Prop where
  da : data d = true
  de : dep d < 4
  sh : shrt d = true
theorem ExO.flat {d : DV} (h : flatD d = true) : ExO d := by cases d <;> first | (cases h; done) | exact ⟨rfl, (show 0 < 4 by decide), rfl⟩
theorem dataL_flat : ∀ {ds : List DV}, ds.all flatD = true → dataL ds = true ∧ depL ds = 0 ∧ shrtL ds = true
  | [], _ => ⟨rfl, rfl, rfl⟩
  | d :: ds, h => by
    rw [List.all_cons, Bool.and_eq_true] at h
    obtain ⟨h1, h2, h3⟩ := dataL_flat h.2
    have h0 : data d = true ∧ dep d = 0 ∧ shrt d = true := by
      have z := h.1
      cases d <;> first | exact ⟨rfl, rfl, rfl⟩ | cases z
    refine ⟨?_, ?_, ?_⟩
    · show (data d && dataL ds) = true
      rw [h0.1, h1]; rfl
    · show max (dep d) (depL ds) = 0
      rw [h0.2.1, h2]; rfl
    · show (shrt d && shrtL ds) = true
      rw [h0.2.2, h3]; rfl
theorem ex_list {ds : List DV} (h : ds.all flatD = true) (hl : ds.length ≤ 10000) : data (.l ds) = true ∧ dep (.l ds) ≤ 1 ∧ shrt (.l ds) = true := by
  obtain ⟨h1, h2, h3⟩ := dataL_flat h
  refine ⟨h1, ?_, ?_⟩
  · show depL ds + 1 ≤ 1
    omega
  · show (decide (ds.length ≤ 10000) && shrtL ds) = true
    rw [h3, decide_eq_true hl]; rfl
theorem ExO.list {ds : List DV} (h : ds.all flatD = true) (hl : ds.length ≤ 10000) : ExO (.l ds) := by
  obtain ⟨h1, h2, h3⟩ := ex_list h hl
  exact ⟨h1, by omega, h3⟩
theorem ExO.ints {xs : List Int} (h : xs.length ≤ 10000) : ExO (.l (xs.map DV.i)) := .list (flat_ints xs) (by rw [List.length_map]; exact h)
theorem ExO.pair {x : Str} {d : DV} (h : flatD d = true) : ExO (.t [.s x, d]) := by
  have h0 : data d = true ∧ dep d = 0 ∧ shrt d = true := by cases d <;> first | exact ⟨rfl, rfl, rfl⟩ | cases h
  refine ⟨?_, ?_, ?_⟩
  · show (true && (data d && true)) = true
    rw [h0.1]; rfl
  · show max 0 (max (dep d) 0) + 1 < 4
    rw [h0.2.1]; decide
  · show (true && (true && (shrt d && true))) = true
    rw [h0.2.2]; rfl
theorem ExO.err {x : Str} {fs : List DV} (h : fs.all flatD = true) (hl : fs.length ≤ 10000) : ExO (errD x fs) := by
  obtain ⟨h1, h2, h3⟩ := ex_list h hl
  have hw : (errW x).length ≤ 10000 := by unfold errW; split <;> simp
  obtain ⟨w1, w2, w3⟩ := ex_list (ds := (errW x).map DV.s) (flat_strs _) (by rw [List.length_map]; exact hw)
  refine ⟨?_, ?_, ?_⟩
  · show (true && (data (.l ((errW x).map DV.s)) && (data (.l fs) && true))) = true
    rw [h1, w1]; rfl
  · show max 0 (max (dep (.l ((errW x).map DV.s))) (max (dep (.l fs)) 0)) + 1 < 4
    omega
  · show (true && (true && (shrt (.l ((errW x).map DV.s)) && (shrt (.l fs) && true)))) = true
    rw [h3, w3]; rfl
theorem ExO.ex {d : DV} (h : ExO d) : ph_ex 4 [d, d] (.b true) := ⟨d, h.da, h.de, h.sh, rfl, rfl⟩
theorem ex_wr {k r : Int} {s : St} {len op i : Int} {e : Str × List DV} (h : wrO k r s len op i = some e) : ExO (errD e.1 e.2) := by
  unfold wrO at h
  split at h
  · cases h; exact .err rfl (by simp)
  split at h
  · cases h; exact .err rfl (by simp)
  split at h
  · cases h; exact .err rfl (by simp)
  split at h
  · cases h; exact .err rfl (by simp)
  · cases h
theorem ex_rch {k r : Int} : ∀ (ops log : List Int) (s : St) (i : Int) (e : Str × List DV), (rch k r log s ops i).1 = some e → ExO (errD e.1 e.2)
  | [], log, s, i, e, h => by cases h
  | op :: ops, log, s, i, e, h => by
    rw [rch_cons] at h
    cases q : wrO k r s log.length op i with
    | some z => rw [q] at h; cases h; exact ex_wr q
    | none => rw [q] at h; exact ex_rch ops _ _ _ e h
/-- whatever due answers -/
theorem ex_due {k r : Int} {past : List (List Int × St)} {j : Nat} {log : List Int} {s : St} {x : Str} {ops : List Int} : ExO (dueB k r past j log s x ops).1 := by
  unfold dueB
  split
  · split
    · exact .err rfl (by decide)
    · exact .pair rfl
  split
  · split
    · exact .err rfl (by decide)
    · exact .pair rfl
  cases q : (rch k r log s ops 0).1 with
  | some e => exact ex_rch ops log s 0 e q
  | none =>
    refine .pair ?_
    split <;> rfl
end Lay
end
section
set_option Elab.async false
set_option linter.all false
set_option autoImplicit false
set_option maxRecDepth 100000
set_option maxHeartbeats 4000000
namespace Lay
open PySem PySem.Spec PyProof.Rows L2


def ph_seen (KK : PySem.W.Frag) : Ph := fun ds F P => ∃ d A D past j b, ds = [.m d, boxD D.k D.cap (pastD past) j, .b b] ∧ DkP KK F d A D ∧ DkW D ∧ atI (past.map pairD) j = some (pairD (D.log, D.s)) ∧ ∀ F', Same F F' → P (.b true) F'
section
variable {w : World} {K : PySem.W.Frag} {mg : Str → Option Value} {base : Heap}
/-- desk.log() is data -/
theorem logG {E : L2.St → XK} {ta : TE} {ss : List (Option DV)} {F : Hp} {P : DV → Hp → Prop} {d : Addr} {A : DA} {D : Dk} (ha : EvD K ta ss (.m d)) (hD : DkP K F d A D) (q : P (.l (D.log.map DV.i)) F) : EvF K (tMethE (He.ga K "Desk") "log" (PD K (ph_log K)) E ta tNil) ss F P :=
  .iceL (.meth ha hD.od rfl (.nil ⟨d, A, D, rfl, hD, fun p hp => ⟨p, _, _, hp, rfl, rfl, fun G => RepL.ints, q⟩⟩))
/-- desk.links() is data -/
theorem linksG {E : L2.St → XK} {ta : TE} {ss : List (Option DV)} {F : Hp} {P : DV → Hp → Prop} {d : Addr} {A : DA} {D : Dk} (ha : EvD K ta ss (.m d)) (hD : DkP K F d A D) (hW : Wf D.s) (q : P D.s.K F) : EvF K (tMethE (He.ga K "Desk") "links" (PD K (ph_links K)) E ta tNil) ss F P :=
  .iceJ (.meth ha hD.od rfl (.nil ⟨d, A, D, rfl, hD, hW, fun a F0 ⟨⟨dx, l, r, f, L, _⟩, _⟩ dj g0 => ⟨a, F0, _, rfl, rfl, dj, g0, L.rep, q⟩⟩))
theorem EvD.castI {te : TE} {ss : List (Option DV)} {i j : Int} (h : EvD K te ss (.i i)) (e : i = j) : EvD K te ss (.i j) := e ▸ h
/-- o.m(), o links told by an expression -/
theorem EvF.lkMF {E : L2.St → XK} {φ : List DV → DV → Prop} {m : Str} {ta : TE} {ss : List (Option DV)} {F : Hp} {P : DV → Hp → Prop} {s : St} {d : DV} (ha : EvF K ta ss F fun x F' => x = s.K ∧ F' = F) (p : φ [s.K] d) (q : P d F) (hm : m ≠ "size" ∧ m ≠ "_lefts" ∧ m ≠ "_rights" ∧ m ≠ "_flags" := by decide +kernel) : EvF K (tMethE (He.ga K "Links") m (PD K (Pu φ)) E ta tNil) ss F P := fun σ G o Q go => ha σ G o _ fun x d1 G1 F1 g1 rx ⟨e1, e2⟩ => by
  subst e1 e2
  have o1 := o.gr g1
  have z := EvD.lkM0 (K := K) (ta := tVar 0) (ss := [some s.K]) (φ := φ) (E := E) (.var rfl) p hm
  exact (z.evf q) [some x] G1 ⟨⟨rfl, fun i dd e => by
    match i, e with
    | 0, e => cases e; exact ⟨x, rfl, rx⟩
    | n + 1, e => simp at e⟩, o1.dj, o1.gG, o1.gF⟩ Q (go.gr g1) |> fun h => by
      obtain ⟨v, hv, h⟩ := h
      cases hv
      exact h

theorem ok_ulaw_seen (T : TX K mg) : FnR PW w K mg base CX0 13 (gA "_law_seen" K) (PD K (ph_seen K)) := by
  obtain ⟨fd, F⟩ := f_ulaw_seen T
  refine fnD_of F n_ulaw_seen (F.bindsN fun _ _ _ _ _ _ us hl => match us, hl with | [_, _, _], _ => rfl) (fun ds F P ⟨_, _, _, _, _, _, e, _⟩ => by rw [e]; rfl) fun cdv A outer s H E hr => ⟨_, PSs.nox
    (pss_cons (ps_asg (pe_ix ix_list (pe_dget (hu_of hr) (pv 1) pe_str (fun _ _ => rfl)) (pe_dget (hu_of hr) (pv 1) pe_str (fun _ _ => rfl)) (fun _ _ => rfl)) (by exact pg_unl rfl (pgs_cons (pg_name (i := 3) n_ulaw_seen.nd rfl (by first | exact .inl rfl | exact .inr rfl)) (pgs_cons (pg_name (i := 4) n_ulaw_seen.nd rfl (by first | exact .inl rfl | exact .inr rfl)) pgs_nil))))
      (pss_cons (ps_set (i := 5) n_ulaw_seen.nd rfl (by first | exact .inl rfl | exact .inr rfl) (pe_methE0 (pv 0) (c_Desk T) (m_Desk_log T) (ok_Desk_log T) (hr.mono (by decide)) at0))
      (pss_cons (ps_set (i := 6) n_ulaw_seen.nd rfl (by first | exact .inl rfl | exact .inr rfl) (pe_methE0 (pv 0) (c_Desk T) (m_Desk_links T) (ok_Desk_links T) (hr.mono (by decide)) at0))
      (pss_cons (ps_if (PW.pt (pw_or (pt_not (pt_val (pe_callR (ok_ulaw_exact T) (hr.mono (by decide)) rfl (g_ulaw_exact T) (k_ulaw_exact T) at0 (pa_cons (pv 5) (pa_cons (pv 3) pa_nil))))) (pw_or1 (pt_not (pt_val (pe_callR (ok_ulaw_exact T) (hr.mono (by decide)) rfl (g_ulaw_exact T) (k_ulaw_exact T) at0 (pa_cons (pe_methE0 (pv 6) (c_Links T) (m_Links_dump T) (ok_Links_dump T) (hr.mono (by decide)) at0) (pa_cons (pe_callR (ok_ulaw_dump T) (hr.mono (by decide)) rfl (g_ulaw_dump T) (k_ulaw_dump T) at0 (pa_cons (pv 4) pa_nil)) pa_nil)))))))) (pss_one (ps_ret pe_bl)) pss_nil)
      (pss_cons (ps_if (pt_val (pv 2)) (pss_cons (ps_expr (pe_bm PySem.F.plainAttrs_list PySem.F.slot_list_append PySem.F.type_list_append mt_append (pv 5) (pa_cons pe_int pa_nil)))
      (pss_cons (ps_asg pe_int (pg_sub (pv 5) pe_int set_list))
      (pss_cons (ps_if (pt_cmpR op_gt (pe_callB call_len_seq (by rfl) (b_len T) boot_len' (pa_cons (pe_ix ix_list (pv 4) pe_int (fun _ _ => rfl)) pa_nil)) pe_int (nomark _)) (pss_one (ps_expr (pe_methE (pv 6) (c_Links T) (m_Links_apply T) (ok_Links_apply T) (hr.mono (by decide)) at0 (pa_cons (pe_op op_sub (pe_op op_mul pe_int (pe_callTy call_int1 (by rfl) (b_int T) boot_int' (pa_cons (pe_ix ix_list (pe_ix ix_list (pv 4) pe_int (fun _ _ => rfl)) pe_int (fun _ _ => rfl)) pa_nil))) pe_int) pa_nil)))) pss_nil)
      (pss_one (ps_if (PW.pt (pw_or (pt_not (pt_val (pe_callR (ok_ulaw_exact T) (hr.mono (by decide)) rfl (g_ulaw_exact T) (k_ulaw_exact T) at0 (pa_cons (pe_methE0 (pv 0) (c_Desk T) (m_Desk_log T) (ok_Desk_log T) (hr.mono (by decide)) at0) (pa_cons (pv 3) pa_nil))))) (pw_or1 (pt_not (pt_val (pe_callR (ok_ulaw_exact T) (hr.mono (by decide)) rfl (g_ulaw_exact T) (k_ulaw_exact T) at0 (pa_cons (pe_methE0 (pe_methE0 (pv 0) (c_Desk T) (m_Desk_links T) (ok_Desk_links T) (hr.mono (by decide)) at0) (c_Links T) (m_Links_dump T) (ok_Links_dump T) (hr.mono (by decide)) at0) (pa_cons (pe_callR (ok_ulaw_dump T) (hr.mono (by decide)) rfl (g_ulaw_dump T) (k_ulaw_dump T) at0 (pa_cons (pv 4) pa_nil)) pa_nil)))))))) (pss_one (ps_ret pe_bl)) pss_nil))))) pss_nil)
      (pss_cons (ps_set (i := 7) n_ulaw_seen.nd rfl (by first | exact .inl rfl | exact .inr rfl) (pe_lst (pa_cons (pe_propR (pv 0) (c_Desk T) (p_Desk_length T) (ok_Desk_length T) (hr.mono (by decide))) (pa_cons (pe_propR (pv 0) (c_Desk T) (p_Desk_debt T) (ok_Desk_debt T) (hr.mono (by decide))) (pa_cons (pe_fld (pv 0) rfl) (pa_cons (pe_fld (pv 0) rfl) pa_nil))))))
      (pss_cons (ps_if (pt_not (pt_val (pe_callR (ok_ulaw_exact T) (hr.mono (by decide)) rfl (g_ulaw_exact T) (k_ulaw_exact T) at0 (pa_cons (pv 7) (pa_cons (pe_lst (pa_cons (pe_callB call_len_seq (by rfl) (b_len T) boot_len' (pa_cons (pv 3) pa_nil)) (pa_cons (pe_callR (ok_ulaw_debt T) (hr.mono (by decide)) rfl (g_ulaw_debt T) (k_ulaw_debt T) at0 (pa_cons (pv 4) pa_nil)) (pa_cons (pe_op op_sub (pe_callB call_len_seq (by rfl) (b_len T) boot_len' (pa_cons (pe_ix ix_list (pv 4) pe_int (fun _ _ => rfl)) pa_nil)) pe_int) (pa_cons (pe_dget (hu_of hr) (pv 1) pe_str (fun _ _ => rfl)) pa_nil))))) pa_nil))))) (pss_one (ps_ret pe_bl)) pss_nil)
      (pss_one (ps_ret (pe_callR (ok_ulaw_exact T) (hr.mono (by decide)) rfl (g_ulaw_exact T) (k_ulaw_exact T) at0 (pa_cons (pe_propR (pv 0) (c_Desk T) (p_Desk_mode T) (ok_Desk_mode T) (hr.mono (by decide))) (pa_cons (pe_ix ix_list (pe_callR0 (ok_ulaw_names T) (hr.mono (by decide)) rfl (g_ulaw_names T) (k_ulaw_names T) at0) (pe_dget (hu_of hr) (pv 1) pe_str (fun _ _ => rfl)) (fun _ _ => rfl)) pa_nil)))))))))))), fun ds F P h gF => ?_⟩
  obtain ⟨d, A, D, past, j, b, rfl, hD, hw, hj, hP⟩ := h
  have hw2 := hw.wf
  have n0 := hw.n0
  have n1 := hw.n1
  have lz := hw.lz
  have exL : ExO (.l (D.log.map DV.i)) := .ints (by omega)
  have exS : ExO (.s (dumpT D.s)) := .flat rfl
  refine .seq (.unl2 (.evf (.ixL (.dget (.var rfl) .str rfl) (.dget (.var rfl) .str rfl) hj) ⟨.l (D.log.map DV.i), D.s.D, rfl, ?_⟩))
  refine .seq (.asg (.meth (.var rfl) hD.od rfl (.nil ⟨d, A, D, rfl, hD, fun q hq => ?_⟩)))
  have h1 : DkP K (upd F q (.lst (D.log.map V.int))) d A D := hD.same (same_put (Same.refl F) hq)
  refine .seq (.asg (.meth (.var rfl) h1.od rfl (.nil ⟨d, A, D, rfl, h1, hw2, fun a F0 ⟨⟨dx, l, r, f, L, _⟩, _⟩ dj g0 => ?_⟩)))
  have hS : Same F (joi (upd F q (.lst (D.log.map V.int))) F0) := (same_put (Same.refl F) hq).trans same_joi
  have hqv : joi (upd F q (.lst (D.log.map V.int))) F0 q = some (.lst (D.log.map V.int)) := joi_l upd_same
  have L2' : LkP K (joi (upd F q (.lst (D.log.map V.int))) F0) a dx l r f D.s := L.same (same_joi_r dj)
  have ne : ∀ {p : Addr} {o : HO}, F0 p = some o → p ≠ q := fun {p o} e z => by
    rcases dj p with y | y
    · rw [z, upd_same] at y; cases y
    · rw [e] at y; cases y
  have na := ne L.oa
  have nl := ne L.ol
  have nr := ne L.or
  have nf := ne L.of
  have fa : F a = none := by
    rcases dj a with y | y
    · rw [upd_ne na] at y; exact y
    · rw [L.oa] at y; cases y
  have fl : F l = none := by
    rcases dj l with y | y
    · rw [upd_ne nl] at y; exact y
    · rw [L.ol] at y; cases y
  have fr : F r = none := by
    rcases dj r with y | y
    · rw [upd_ne nr] at y; exact y
    · rw [L.or] at y; cases y
  have ff : F f = none := by
    rcases dj f with y | y
    · rw [upd_ne nf] at y; exact y
    · rw [L.of] at y; cases y
  generalize joi (upd F q (.lst (D.log.map V.int))) F0 = F2 at hS hqv L2'
  refine .seq (.ifS (.or (.not (EvT.see (i := 5) rfl (.l hqv (RepL.ints (K := K) (G := F2)).1 RepL.ints.2) (.val (.call (.cons (.var rfl) (.cons (.var rfl) .nil)) exL.ex)) ?_))))
  refine .not (EvT.see (i := 6) rfl L2'.rep (.val (.call (.cons (.lkM0 (.var rfl) ⟨D.s, hw2, rfl, rfl⟩) (.cons (.call (.cons (.var rfl) .nil) ⟨D.s, hw2, rfl, rfl⟩) .nil)) exS.ex)) ?_)
  refine .nil ?_
  refine .seq (RnF.mono (R := P) (N := fun ss' F' => ss' = [some (.m d), some (boxD D.k D.cap (pastD past) j), some (.b b), some (.l (D.log.map DV.i)), some D.s.D, some (.m q), some (.m a), none] ∧ Same F F')
    (.ifB (.val (.var rfl)) (fun hb => ?_) (fun hb => .nil ⟨rfl, hS⟩)) (fun ss' F3 ⟨e1, hS3⟩ => ?_) (fun _ _ z => z))
  · refine .seq (RnF.append (.var rfl) .int hqv (by rw [List.length_map, sizeLine_eq]; omega) (fun v _ ⟨G, rv⟩ => ?_))
    obtain rfl := rv.int_inv
    refine .seq (RnF.setH (d := .i 0) (.evf .int ⟨rfl, rfl⟩) (.var rfl) .int upd_same (j := 0) (ixN_tab (k := 0) (by decide) (by simp)) rfl ?_)
    rw [upd_upd]
    have L4 := L2'.put (o := .lst ((D.log.map V.int ++ [V.int 7]).set 0 (vl (.i 0)))) na nl nr nf
    have hS4 := same_put hS (o := .lst ((D.log.map V.int ++ [V.int 7]).set 0 (vl (.i 0)))) hq
    generalize upd F2 q (.lst ((D.log.map V.int ++ [V.int 7]).set 0 (vl (.i 0)))) = F4 at L4 hS4
    refine .seq (RnF.mono (R := P) (N := fun ss' F' => ss' = [some (.m d), some (boxD D.k D.cap (pastD past) j), some (.b b), some (.l (D.log.map DV.i)), some D.s.D, some (.m q), some (.m a), none] ∧ Same F F')
      (.ifB (.test (.gt (.lenTab (α := Int) (.ixL (.var rfl) .int rfl) (by have := hw.sn; omega)) .int)) (fun hn => ?_) (fun _ => .nil ⟨rfl, hS4⟩)) (fun ss' F5 ⟨e1, hS5⟩ => ?_) (fun _ _ z => z))
    · have hn := of_decide_eq_true hn
      have leg := leg_opL (s := D.s) (x := 1) (by omega) (by omega)
      rw [show opL D.s 1 = 2 * bI (D.s.O 1) - 1 by unfold opL; rw [Int.one_mul]] at leg
      refine .drop (.meth (.var rfl) L4.oa rfl (.eva (.cons (.sub (.mul .int (.intB (.ixL (.ixL (.var rfl) .int rfl) .int (atI_tab (by omega) (by omega)))) (.inl ⟨by decide, by decide⟩)) .int) .nil) ⟨a, dx, l, r, f, D.s, _, rfl, L4, hw2, leg, rfl, ?_⟩))
      exact same_put (same_put (same_put hS4 fr) fl) ff
    subst e1
    have hD5 := hD.same hS5
    refine .ifS (.or (.not (.val (.call (.cons (logG (.var rfl) hD5 (.cons (.evf (.var rfl) (.nil ⟨_, exL.ex, true, rfl, ?_⟩)))))))))
    refine .not (.val (.call (.cons (EvF.lkMF (linksG (.var rfl) hD5 hw2 ⟨rfl, rfl⟩) ⟨D.s, hw2, rfl, rfl⟩ (.cons (.evf (.call (.cons (.var rfl) .nil) ⟨D.s, hw2, rfl, rfl⟩) (.nil ⟨_, exS.ex, true, rfl, ?_⟩)))))))
    exact .nil ⟨rfl, hS5⟩
  subst e1
  have hD3 := hD.same hS3
  refine .seq (.asg (.lstA (.cons (.prop (.var rfl) hD3.od ⟨d, A, D, rfl, hD3, .cons (.prop (.var rfl) hD3.od ⟨d, A, D, rfl, hD3, hw2, .cons (.fldF (.var rfl) hD3.od (c_Desk T) (n_Desk_size T) rfl True.intro (.cons (.fldF (.var rfl) hD3.od (c_Desk T) (n_Desk_capacity T) rfl True.intro (.nil ⟨(by rw [sizeLine_eq]; simp), ?_⟩))))⟩)⟩))))
  have exN : ExO (.l [.i D.log.length, debtD D.s, .i D.n, .i D.cap]) := .list (by
    show (true && (flatD (debtD D.s) && (true && (true && true)))) = true
    rw [debt_flat]; rfl) (by simp)
  have sn := hw.sn
  refine .seq (.ifB (c := !true) (.not (.val (.call (.cons (.var rfl) (.cons (.lst (.cons (.lenI (.var rfl)) (.cons (.call (.cons (.var rfl) .nil) ⟨D.s, hw2, rfl, rfl⟩) (.cons (.castI (.sub (.lenTab (α := Int) (.ixL (.var rfl) .int rfl) (by omega)) .int) (show D.s.n + 1 - 1 = D.n by omega)) (.cons (.dget (.var rfl) .str rfl) .nil)))) (by rw [sizeLine_eq]; simp)) .nil)) exN.ex))) (fun z => by cases z) (fun _ => .nil ?_))
  have hk : atI (([0, 1, 2, 3] : List Int).map fun k => DV.s (modeN k)) D.k = some (.s (modeN D.k)) := by
    have k0 := hw.k0
    have k1 := hw.k1
    rcases (by omega : D.k = 0 ∨ D.k = 1 ∨ D.k = 2 ∨ D.k = 3) with h | h | h | h <;> rw [h] <;> rfl
  exact .ret (.call (.cons (.prop (.var rfl) hD3.od ⟨d, A, D, rfl, hD3, .cons (.evf (.ixL (.call .nil ⟨rfl, rfl⟩) (.dget (.var rfl) .str rfl) hk) (.nil ⟨.b true, (ExO.flat rfl).ex, hP F3 hS3⟩))⟩)))


end
end Lay
end
section
set_option Elab.async false
set_option linter.all false
set_option autoImplicit false
set_option maxRecDepth 100000
set_option maxHeartbeats 4000000
/-! own layer Z2: desk, box and the rest, one beside the other -/
namespace Lay
open PySem PySem.Spec PyProof.Rows L2
/-- the desk's part, the rest, the box -/
structure Wd (K : PySem.W.Frag) (k r : Int) (d b : Addr) (Fb : Hp) (D : Dk) (v : V) (j : Nat) (F : Hp) : Prop where
  ex : ∃ Fd A, F = joi Fd (upd Fb b (boxO k r v j)) ∧ Disj Fd Fb ∧ Good Fd ∧ Fd b = none ∧ DkP K Fd d A D
  gb : Good Fb
  nb : Fb b = none
/-- what due answers of the steps -/
abbrev dueI (n k r : Int) (steps : List (List Int)) (j : Nat) (x : Str) (ops : List Int) : DV × List (List Int × St) × Nat := dueB k r (pastP n steps) j (preF steps j) (runS (St0 n) (preF steps j)) x ops
theorem DeedOk.len {x : Str} {ops : List Int} (h : DeedOk x ops) : ops.length ≤ 9 := by
  rcases h with ⟨_, h⟩ | ⟨_, h⟩ | ⟨_, h⟩ | ⟨_, h⟩
  · rw [h]; decide
  · rw [h]; decide
  · omega
  · exact h
section
variable {K : PySem.W.Frag} {n k r : Int} {d b : Addr} {Fb F : Hp} {D : Dk} {v : V} {j jb : Nat} {steps : List (List Int)} {x : Str} {ops : List Int} {P : DV → Hp → Prop} {te : TE} {tas : TA} {tt : TT} {ss : List (Option DV)} {E : L2.St → XK}
theorem Inv.lens (I : Inv n k r D steps j) : steps.length ≤ 2000 ∧ (preF steps j).length ≤ 2000 := by
  have h1 := len_flat steps I.ne
  have h2 := (I.pre j).2
  have h3 := I.cp
  have h4 := I.r1
  omega
theorem Inv.at (I : Inv n k r D steps j) : (pastP n steps)[j]? = some (preF steps j, runS (St0 n) (preF steps j)) := pastP_get I.jl
theorem Wd.due (W : Wd K k r d b Fb D v j F) (I : Inv n k r D steps j) (ho : ops.length ≤ 9) (q : ∀ v' F', Wd K k r d b Fb D v' (dueI n k r steps j x ops).2.2 F' → P (.gh (dueI n k r steps j x ops).1 v' (pastD (dueI n k r steps j x ops).2.1)) F') : ph_ldue [.gh (.m b) v (pastD (pastP n steps)), deedD x ops] F P := by
  obtain ⟨⟨Fd, A, rfl, dj, gd, db, hD⟩, gb, nb⟩ := W
  have hl := I.lens
  refine ⟨b, v, joi Fd Fb, k, r, pastP n steps, preF steps j, runS (St0 n) (preF steps j), j, x, ops, rfl, (joi_put db).symm, by rw [joi_r db, nb], gd.joi gb dj, I.at, by rw [pastP_len]; omega, (I.wf j).1, I.k0, I.k1, by omega, ho, fun v' => ?_⟩
  refine q v' _ ⟨⟨Fd, A, joi_put db, dj, gd, db, hD⟩, gb, nb⟩
theorem disj_put {A B : Hp} {p : Addr} {o : HO} (d : Disj A B) (h : A p = none) : Disj A (upd B p o) := fun b => by
  by_cases e : b = p
  · rw [e]; exact .inl h
  · rw [upd_ne e]; exact d b
theorem disj_unput {A B : Hp} {p : Addr} {o : HO} (d : Disj A (upd B p o)) (h : B p = none) : Disj A B ∧ A p = none := by
  refine ⟨fun b => ?_, (d p).resolve_right fun z => by rw [upd_same] at z; cases z⟩
  by_cases e : b = p
  · rw [e]; exact .inr h
  · have z := d b
    rwa [upd_ne e] at z
theorem Wd.told (W : Wd K k r d b Fb D v jb F) (I : Inv n k r D steps j) (ho : DeedOk x ops)
    (q : ∀ F' D' steps', (dueI n k r steps j x ops).2.1 = pastP n steps' → Wd K k r d b Fb D' v jb F' → Inv n k r D' steps' (dueI n k r steps j x ops).2.2 → P (dueI n k r steps j x ops).1 F') : FrΦ (ph_told K) [.m d, deedD x ops] F P := by
  obtain ⟨⟨Fd, A, rfl, dj, gd, db, hD⟩, gb, nb⟩ := W
  refine ⟨Fd, _, rfl, disj_put dj db, gd, gb.new nb rfl, d, A, D, n, k, r, steps, j, x, ops, rfl, hD, I, ho, fun F' A' D' steps' j' hD' I' e dj' g' => ?_⟩
  obtain ⟨d2, n2⟩ := disj_unput dj' nb
  have e2 : (dueI n k r steps j x ops).2.2 = j' := congrArg (·.2) e
  exact q _ D' steps' (congrArg (·.1) e) ⟨⟨F', A', rfl, d2, g', n2, hD'⟩, gb, nb⟩ (e2 ▸ I')
/-- the dict seen as data; nothing new stands at its place -/
theorem EvF.viewC {i : Nat} {p : Addr} {d' d1 : DV} {F0 : Hp} {kvs : List (Key × V)} (hi : ss[i]? = some (some d')) (hF : F = upd F0 p (.dK kvs)) (h0 : F0 p = none) (gF0 : Good F0) (hs : ∀ G v, G p = none → Rep K G v d' → Rep K (upd G p (.dK kvs)) v d1)
    (h : EvF K te (ss.set i (some d1)) F0 fun d F' => ND d ∧ (F' p = none → P d (upd F' p (.dK kvs)))) : EvF K te ss F P := fun σ G o Q go => by
  subst hF
  obtain ⟨hG, g, o2⟩ := viewB_in o hi h0 gF0 hs
  rw [joi_ice hG]
  refine h σ _ o2 Q fun v d G' F' g' r ⟨nd, q⟩ => ?_
  have hn : F' p = none := (g'.dj p).resolve_left fun z => by rw [g'.sm _ _ upd_same] at z; cases z
  obtain ⟨G2, e, g2, hl⟩ := viewB_out hG g g'
  rw [e]
  exact go v d G2 _ g2 (r.less hl nd) (q hn)
/-- the box seen as data -/
theorem Wd.view {ib : Nat} {pd : DV} (W : Wd K k r d b Fb D v j F) (hb : ss[ib]? = some (some (.gh (.m b) v pd)))
    (h : ∀ Fd A, Disj Fd Fb → Good Fd → Fd b = none → DkP K Fd d A D → EvF K te (ss.set ib (some (boxD k r pd j))) (joi Fd Fb) fun x F' => ND x ∧ (F' b = none → P x (upd F' b (boxO k r v j)))) : EvF K te ss F P := by
  obtain ⟨⟨Fd, A, rfl, dj, gd, db, hD⟩, gb, nb⟩ := W
  exact .viewC hb (joi_put db).symm (by rw [joi_r db, nb]) (gd.joi gb dj) (fun G x hG r => box_view hG r) (h Fd A dj gd db hD)
/-- .. where nothing changes -/
theorem Wd.look {ib : Nat} {pd x : DV} (W : Wd K k r d b Fb D v j F) (hb : ss[ib]? = some (some (.gh (.m b) v pd))) (h : EvD K te (ss.set ib (some (boxD k r pd j))) x) (nx : ND x) (q : P x F) : EvF K te ss F P := by
  obtain ⟨⟨Fd, A, rfl, dj, gd, db, hD⟩, gb, nb⟩ := W
  refine .viewC hb (joi_put db).symm (by rw [joi_r db, nb]) (gd.joi gb dj) (fun G x hG r => box_view hG r) (h.evf ⟨nx, fun _ => ?_⟩)
  rw [joi_put db]
  exact q
theorem Wd.seen {ib : Nat} {dp : Bool} (W : Wd K k r d b Fb D v j F) (I : Inv n k r D steps j) (hb : ss[ib]? = some (some (.gh (.m b) v (pastD (pastP n steps)))))
    (hargs : EvAs K tas (ss.set ib (some (boxD k r (pastD (pastP n steps)) j))) [.m d, boxD k r (pastD (pastP n steps)) j, .b dp]) (q : ∀ F', Wd K k r d b Fb D v j F' → P (.b true) F') : EvF K (tCallS (PD K (FrΦ (ph_seen K))) E tas) ss F P := by
  have gb := W.gb
  have nb := W.nb
  refine W.view hb fun Fd A dj gd db hD => .call (.eva hargs ⟨Fd, Fb, rfl, dj, gd, gb, d, A, D, pastP n steps, j, dp, by rw [I.dk, I.dc], hD, I.dkw, ?_, fun F' hS dj' g' => ⟨.b _, fun hn => ?_⟩⟩)
  · rw [I.lg, I.st]
    exact atI_past I.at
  · have db' : F' b = none := (joi_none hn).1
    exact q _ ⟨⟨F', A, joi_put db', dj', g', db', hD.same hS⟩, gb, nb⟩
end
end Lay
end
section
set_option Elab.async false
set_option linter.all false
set_option autoImplicit false
set_option maxRecDepth 100000
set_option maxHeartbeats 4000000
namespace Lay
open PySem PySem.Spec PyProof.Rows L2


def ph_walked (KK : PySem.W.Frag) : Ph := fun ds F P => ∃ d b n k r steps j v Fb D, ds = [.m d, .gh (.m b) v (pastD (pastP n steps))] ∧ Wd KK k r d b Fb D v j F ∧ Inv n k r D steps j ∧ ∀ F', P (.b true) F'
section
variable {w : World} {K : PySem.W.Frag} {mg : Str → Option Value} {base : Heap}

theorem ok_ulaw_walked (T : TX K mg) : FnR PW w K mg base CX0 23 (gA "_law_walked" K) (PD K (ph_walked K)) := by
  obtain ⟨fd, F⟩ := f_ulaw_walked T
  refine fnD_of F n_ulaw_walked (F.bindsN fun _ _ _ _ _ _ us hl => match us, hl with | [_, _], _ => rfl) (fun ds F P ⟨_, _, _, _, _, _, _, _, _, _, e, _⟩ => by rw [e]; rfl) fun cdv A outer s H E hr => ⟨_, PSs.nox
    (pss_cons (ps_for PassesOwn.never rfl (pi_list (pe_lst (pa_cons pe_str (pa_cons pe_str pa_nil)))) (pg_name (i := 2) n_ulaw_walked.nd rfl (by first | exact .inl rfl | exact .inr rfl)) (pss_one (ps_for PassesOwn.never rfl (pi_range1 (by rfl) (b_range T) (pa_cons (pe_callB call_len_seq (by rfl) (b_len T) boot_len' (pa_cons (pe_dget (hu_of hr) (pv 1) pe_str (fun _ _ => rfl)) pa_nil)) pa_nil)) (pg_name (i := 3) n_ulaw_walked.nd rfl (by first | exact .inl rfl | exact .inr rfl)) (pss_cons (ps_set (i := 4) n_ulaw_walked.nd rfl (by first | exact .inl rfl | exact .inr rfl) (pe_callR (ok_ulaw_due T) (hr.mono (by decide)) rfl (g_ulaw_due T) (k_ulaw_due T) at0 (pa_cons (pv 1) (pa_cons (pe_tup (pa_cons (pv 2) (pa_cons (pe_lst pa_nil) pa_nil))) pa_nil))))
      (pss_cons (ps_if (pt_not (pt_val (pe_callR (ok_ulaw_exact T) (hr.mono (by decide)) rfl (g_ulaw_exact T) (k_ulaw_exact T) at0 (pa_cons (pe_callR (FnR.fr (ok_ulaw_told T)) (hr.mono (by decide)) rfl (g_ulaw_told T) (k_ulaw_told T) at0 (pa_cons (pv 0) (pa_cons (pe_tup (pa_cons (pv 2) (pa_cons (pe_lst pa_nil) pa_nil))) pa_nil))) (pa_cons (pv 4) pa_nil))))) (pss_one (ps_ret pe_bl)) pss_nil)
      (pss_one (ps_if (pt_not (pt_val (pe_callR (FnR.fr (ok_ulaw_seen T)) (hr.mono (by decide)) rfl (g_ulaw_seen T) (k_ulaw_seen T) at0 (pa_cons (pv 0) (pa_cons (pv 1) (pa_cons pe_bl pa_nil)))))) (pss_one (ps_ret pe_bl)) pss_nil)))))))
      (pss_one (ps_ret pe_bl))), fun ds F P h gF => ?_⟩
  obtain ⟨d, b, n, k, r, steps, j, v, Fb, D, rfl, W, I, hP⟩ := h
  refine .seq (.forL (ds := [.s "undo", .s "redo"]) (fun _ ss' F' => ∃ steps j v D o2 o3 o4, ss' = [some (.m d), some (.gh (.m b) v (pastD (pastP n steps))), o2, o3, o4] ∧ Wd K k r d b Fb D v j F' ∧ Inv n k r D steps j)
    (.evf (.lst (.cons .str (.cons .str .nil)) (by rw [sizeLine_eq]; simp)) ⟨rfl, steps, j, v, D, none, none, none, rfl, W, I⟩) (fun t dx ss' F' ht ⟨steps, j, v, D, o2, o3, o4, e1, W, I⟩ => ?_) (fun ss' F' ⟨steps, j, v, D, o2, o3, o4, e1, W, I⟩ => ?_))
  · have hx : ∃ x : Str, dx = .s x ∧ DeedOk x [] := by
      match t, ht with
      | 0, ht => cases ht; exact ⟨"undo", rfl, .inl ⟨rfl, rfl⟩⟩
      | 1, ht => cases ht; exact ⟨"redo", rfl, .inr (.inl ⟨rfl, rfl⟩)⟩
      | t + 2, ht => simp at ht
    obtain ⟨x, rfl, hok⟩ := hx
    subst e1
    have hl := I.lens
    refine .forRange1 (W.look (ib := 1) (x := .i ((pastP n steps).map pairD).length) rfl (.len (.dget (.var rfl) .str rfl)) (.i _) ⟨_, rfl, ?_, ?_, fun _ ss' F' => ∃ steps j v D o3 o4, ss' = [some (.m d), some (.gh (.m b) v (pastD (pastP n steps))), some (.s x), o3, o4] ∧ Wd K k r d b Fb D v j F' ∧ Inv n k r D steps j, ⟨steps, j, v, D, o3, o4, rfl, W, I⟩, fun t2 ss' F' ht2 ⟨steps, j, v, D, o3, o4, e1, W, I⟩ => ?_, fun ss' F' ⟨steps, j, v, D, o3, o4, e1, W, I⟩ => ⟨steps, j, v, D, _, o3, o4, e1, W, I⟩⟩)
    · omega
    · rw [List.length_map, pastP_len]
      omega
    subst e1
    refine .seq (.asgG (i := 4) (j := 1) (by decide) rfl (.call (.eva (.cons (.var rfl) (.cons (.tup (.cons (.var rfl) (.cons (.lst .nil (by rw [sizeLine_eq]; simp)) .nil)) (by rw [sizeLine_eq]; simp)) .nil)) (W.due I (x := x) (ops := []) (by decide) fun v' F1 W1 => ⟨_, v', _, rfl, ?_⟩))))
    refine .seq (.ifS (.not (.val (.call (.cons (.call (.eva (.cons (.var rfl) (.cons (.tup (.cons (.var rfl) (.cons (.lst .nil (by rw [sizeLine_eq]; simp)) .nil)) (by rw [sizeLine_eq]; simp)) .nil)) (W1.told I hok fun F2 D2 steps2 e2 W2 I2 => .cons (.evf (.var rfl) (.nil ⟨_, ex_due.ex, true, rfl, ?_⟩))))))))))
    refine .nil ?_
    rw [e2]
    obtain ⟨j2, hj2⟩ : ∃ j2, (dueI n k r steps j x []).2.2 = j2 := ⟨_, rfl⟩
    rw [hj2] at W2 I2
    refine .ifS (.not (.val (W2.seen I2 (ib := 1) rfl (.cons (.var rfl) (.cons (.var rfl) (.cons .bl .nil))) fun F3 W3 => ⟨true, rfl, ?_⟩)))
    exact .nil ⟨steps2, j2, v', D2, _, _, rfl, W3, I2⟩
  · subst e1
    exact .ret (.evf .bl (hP F'))


end
end Lay
end
section
set_option Elab.async false
set_option linter.all false
set_option autoImplicit false
set_option maxRecDepth 100000
set_option maxHeartbeats 4000000
namespace Lay
open PySem PySem.Spec PyProof.Rows L2


/-- desk, box and bag -/
def WB (K : PySem.W.Frag) (k r : Int) (d b g : Addr) (D : Dk) (v : V) (j : Nat) (F : Hp) : Prop := ∃ F0 x y z, F0 g = none ∧ 0 ≤ x ∧ 0 ≤ z ∧ Wd K k r d b (upd F0 g (bagO x y z)) D v j F
section
variable {K : PySem.W.Frag} {n k r m : Int} {d b g : Addr} {F : Hp} {D : Dk} {v : V} {j jb : Nat} {steps : List (List Int)} {x : Str} {ops : List Int} {xs : List Int} {P : DV → Hp → Prop} {te ta tb : TE} {tas : TA} {tt tu : TT} {ts tr : TS} {ss : List (Option DV)} {E : L2.St → XK} {N : List (Option DV) → Hp → Prop} {R : DV → Hp → Prop} {S : Hp → Prop}
theorem joi_nilL {F : Hp} : joi nilH F = F := funext fun b => joi_r rfl
theorem Wd.bagged {F0 : Hp} {x y z : Int} (W : Wd K k r d b (upd F0 g (bagO x y z)) D v j F) : b ≠ g ∧ Bag g F → b ≠ g ∧ Bag g F := id
theorem Wd.isBag {F0 : Hp} {x y z : Int} (W : Wd K k r d b (upd F0 g (bagO x y z)) D v j F) (x0 : 0 ≤ x) (z0 : 0 ≤ z) : Bag g F := by
  obtain ⟨⟨Fd, A, rfl, dj, gd, db, hD⟩, gb, nb⟩ := W
  have gb' : g ≠ b := fun e => by rw [← e, upd_same] at nb; cases nb
  have dg : Fd g = none := (dj g).resolve_right fun e => by rw [upd_same] at e; cases e
  exact ⟨x, y, z, by rw [joi_r dg, upd_ne gb', upd_same], x0, z0⟩
theorem Wd.reBag {F0 : Hp} {x y z x' y' z' : Int} (W : Wd K k r d b (upd F0 g (bagO x y z)) D v j F) : Wd K k r d b (upd F0 g (bagO x' y' z')) D v j (upd F g (bagO x' y' z')) := by
  obtain ⟨⟨Fd, A, rfl, dj, gd, db, hD⟩, gb, nb⟩ := W
  have gb' : g ≠ b := fun e => by rw [← e, upd_same] at nb; cases nb
  have dg : Fd g = none := (dj g).resolve_right fun e => by rw [upd_same] at e; cases e
  have e1 : upd (upd F0 g (bagO x y z)) g (bagO x' y' z') = upd F0 g (bagO x' y' z') := upd_upd
  refine ⟨⟨Fd, A, ?_, ?_, gd, db, hD⟩, ?_, ?_⟩
  · rw [joi_put dg, ← upd_comm gb', e1]
  · rw [← e1]
    exact disj_put dj dg
  · rw [← e1]
    exact gb.put upd_same rfl rfl
  · rw [← e1, upd_ne (Ne.symm gb')]
    exact nb
theorem WB.bag (W : WB K k r d b g D v j F) : Bag g F := by
  obtain ⟨F0, x, y, z, h0, x0, z0, W⟩ := W
  exact W.isBag x0 z0
theorem WB.draw (W : WB K k r d b g D v j F) {x y z : Int} (x0 : 0 ≤ x) (z0 : 0 ≤ z) : WB K k r d b g D v j (upd F g (bagO x y z)) := by
  obtain ⟨F0, x1, y1, z1, h0, _, _, W⟩ := W
  exact ⟨F0, x, y, z, h0, x0, z0, W.reBag⟩
/-- a test that may change F -/
theorem RnF.ifAny (hc : EvT K tt ss F fun _ F' => S F') (h1 : ∀ F', S F' → RnF K ts ss F' N R) (h2 : ∀ F', S F' → RnF K tr ss F' N R) : RnF K (tIfS tt ts tr) ss F N R :=
  .ifS fun σ G o Q q => hc σ G o Q fun c G' F' g' s => q c G' F' g' (by
    cases c
    · exact h2 F' s
    · exact h1 F' s)
theorem EvT.orAny (ha : EvT K tt ss F fun _ F' => S F') (hb : ∀ F', S F' → EvT K tu ss F' fun _ F2 => S F2) : EvT K (tOr tt tu) ss F fun _ F' => S F' :=
  .or fun σ G o Q q => ha σ G o Q fun c G' F' g' s => q c G' F' g' (by
    cases c
    · exact hb F' s
    · exact s)
theorem EvT.andAny (ha : EvT K tt ss F fun _ F' => S F') (hb : ∀ F', S F' → EvT K tu ss F' fun _ F2 => S F2) : EvT K (tAnd tt tu) ss F fun _ F' => S F' :=
  .and fun σ G o Q q => ha σ G o Q fun c G' F' g' s => q c G' F' g' (by
    cases c
    · exact s
    · exact hb F' s)
theorem EvB.any {c : Bool} (h : EvB K tt ss c) (s : S F) : EvT K tt ss F fun _ F' => S F' := h.evt s
/-- a and b, a True -/
theorem EvF.andT (ha : EvF K ta ss F fun d F1 => d = .b true ∧ EvF K tb ss F1 P) : EvF K (tAndV ta tb) ss F P := fun σ G o Q go => ha σ G o _ fun v d G1 F1 g1 rv ⟨e, h⟩ => by
  subst e
  exact ⟨true, rv.bl_inv, h σ G1 (o.gr g1) Q (go.gr g1)⟩
/-- the desk's operations: what deed draws -/
theorem WB.deed {ib : Nat} (W : WB K k r d b g D v j F) (hb : ss[ib]? = some (some (.gh (.m b) v (pastD (pastP n steps))))) (I : Inv n k r D steps j) {u : Int} (u0 : 0 ≤ u) (u1 : u < 60)
    (hargs : EvAs K tas (ss.set ib (some (boxD k r (pastD (pastP n steps)) j))) [.m g, .sc xs, boxD k r (pastD (pastP n steps)) j, .i u]) (q : ∀ x ops F', DeedOk x ops → WB K k r d b g D v j F' → P (deedD x ops) F') : EvF K (tCallS (PD K ph_deed) E tas) ss F P := by
  obtain ⟨F0, x, y, z, h0, x0, z0, W⟩ := W
  have gb := W.gb
  have nb := W.nb
  have hg : b ≠ g := fun e => by rw [e, upd_same] at nb; cases nb
  refine W.view hb fun Fd A dj gd db hD => ?_
  have dg : Fd g = none := (dj g).resolve_right fun e => by rw [upd_same] at e; cases e
  refine .call (.eva hargs ⟨g, xs, k, r, pastP n steps, j, u, preF steps j, runS (St0 n) (preF steps j), rfl, atI_past I.at, (I.wf j).1, u0, u1, I.k0, I.k1, ⟨x, y, z, by rw [joi_r dg, upd_same], x0, z0⟩, fun xw ops a b' c ho a0 c0 => ⟨.consT (.s _) (.consT .ints .nilT), fun hn => ?_⟩⟩)
  have W2 : Wd K k r d b (upd F0 g (bagO x y z)) D v j (joi Fd (upd (upd F0 g (bagO x y z)) b (boxO k r v j))) := ⟨⟨Fd, A, rfl, dj, gd, db, hD⟩, gb, nb⟩
  have W3 := W2.reBag (x' := a) (y' := b') (z' := c)
  rw [← joi_put db, upd_comm hg] at W3
  exact q xw ops _ ho ⟨F0, a, b', c, h0, a0, c0, W3⟩
end


def ph_law : Ph := fun ds F P => ∃ xs : List Int, ds = [.sc xs] ∧ ∀ F', P (.b true) F'
section
variable {w : World} {K : PySem.W.Frag} {mg : Str → Option Value} {base : Heap}

theorem okk_law (T : TX K mg) {fd : FuncData} (F : FunD K dl_law.name dl_law.qual dl_law.params dl_law.body dl_law.scope [] dl_law.kwd (dl_law.adr K) fd) : FnOk PW w K mg base CX0 24 (gA "law" K) fd ["_law_script"] (PD K ph_law) := by
  refine fnDk_of F n_law (fun ds F P ⟨_, e, _⟩ => by rw [e]; rfl) fun cdv A outer s H E hr => ⟨_, PSs.nox
    (pss_cons (ps_set (i := 1) n_law.nd rfl (by first | exact .inl rfl | exact .inr rfl) (pe_lst (pa_cons pe_int (pa_cons pe_int (pa_cons pe_int pa_nil)))))
      (pss_cons (ps_set (i := 2) n_law.nd rfl (by first | exact .inl rfl | exact .inr rfl) (pe_callR (ok_ulaw_size T) (hr.mono (by decide)) rfl (g_ulaw_size T) (k_ulaw_size T) at0 (pa_cons (pv 1) (pa_cons (pv 0) pa_nil))))
      (pss_cons (ps_set (i := 3) n_law.nd rfl (by first | exact .inl rfl | exact .inr rfl) (pe_callR (ok_ulaw_draw T) (hr.mono (by decide)) rfl (g_ulaw_draw T) (k_ulaw_draw T) at0 (pa_cons (pv 1) (pa_cons (pv 0) (pa_cons pe_int pa_nil)))))
      (pss_cons (ps_set (i := 4) n_law.nd rfl (by first | exact .inl rfl | exact .inr rfl) (pe_callR (ok_ulaw_room T) (hr.mono (by decide)) rfl (g_ulaw_room T) (k_ulaw_room T) at0 (pa_cons (pv 1) (pa_cons (pv 0) pa_nil))))
      (pss_cons (ps_set (i := 5) n_law.nd rfl (by first | exact .inl rfl | exact .inr rfl) (pe_callR (ok_ulaw_box T) (hr.mono (by decide)) rfl (g_ulaw_box T) (k_ulaw_box T) at0 (pa_cons (pv 2) (pa_cons (pv 3) (pa_cons (pv 4) pa_nil)))))
      (pss_cons (ps_set (i := 6) n_law.nd rfl (by first | exact .inl rfl | exact .inr rfl) (pe_callR (FnR.fr (ok_ulaw_desk T)) (hr.mono (by decide)) rfl (g_ulaw_desk T) (k_ulaw_desk T) at0 (pa_cons (pv 2) (pa_cons (pv 3) (pa_cons (pv 4) pa_nil)))))
      (pss_cons (ps_set (i := 7) n_law.nd rfl (by first | exact .inl rfl | exact .inr rfl) (pe_callR (ok_ulaw_draw T) (hr.mono (by decide)) rfl (g_ulaw_draw T) (k_ulaw_draw T) at0 (pa_cons (pv 1) (pa_cons (pv 0) (pa_cons pe_int pa_nil)))))
      (pss_cons (ps_set (i := 8) n_law.nd rfl (by first | exact .inl rfl | exact .inr rfl) (pe_callR (ok_ulaw_plan T) (hr.mono (by decide)) rfl (g_ulaw_plan T) (k_ulaw_plan T) at0 (pa_cons (pv 1) (pa_cons (pv 0) (pa_cons (pv 2) pa_nil)))))
      (pss_cons (ps_for PassesOwn.never rfl (pi_range1 (by rfl) (b_range T) (pa_cons (pe_op op_add pe_int (pe_callR (ok_ulaw_draw T) (hr.mono (by decide)) rfl (g_ulaw_draw T) (k_ulaw_draw T) at0 (pa_cons (pv 1) (pa_cons (pv 0) (pa_cons pe_int pa_nil))))) pa_nil)) (pg_name (i := 9) n_law.nd rfl (by first | exact .inl rfl | exact .inr rfl)) (pss_cons (ps_set (i := 10) n_law.nd rfl (by first | exact .inl rfl | exact .inr rfl) (pe_tup (pa_cons pe_str (pa_cons (pv 8) pa_nil))))
      (pss_cons (ps_if (PW.pt (pw_or (pt_cmpR op_gt (pv 9) pe_int (nomark _)) (pw_or1 (pt_cmpR (op_eqD hr.units) (pv 8) (pe_lst pa_nil) (nomark _))))) (pss_one (ps_set (i := 10) n_law.nd rfl (by first | exact .inl rfl | exact .inr rfl) (pe_callR (ok_ulaw_deed T) (hr.mono (by decide)) rfl (g_ulaw_deed T) (k_ulaw_deed T) at0 (pa_cons (pv 1) (pa_cons (pv 0) (pa_cons (pv 5) (pa_cons (pv 7) pa_nil))))))) pss_nil)
      (pss_cons (ps_asg (pe_callR (ok_ulaw_reached T) (hr.mono (by decide)) rfl (g_ulaw_reached T) (k_ulaw_reached T) at0 (pa_cons (pv 5) (pa_cons (pe_ix ix_tup (pv 10) pe_int (fun _ _ => rfl)) pa_nil))) (by exact pg_tup rfl (pgs_cons (pg_name (i := 11) n_law.nd rfl (by first | exact .inl rfl | exact .inr rfl)) (pgs_cons (pg_name (i := 12) n_law.nd rfl (by first | exact .inl rfl | exact .inr rfl)) (pgs_cons (pg_name (i := 13) n_law.nd rfl (by first | exact .inl rfl | exact .inr rfl)) pgs_nil)))))
      (pss_cons (ps_set (i := 14) n_law.nd rfl (by first | exact .inl rfl | exact .inr rfl) (pe_op op_sub (pe_callB call_len_seq (by rfl) (b_len T) boot_len' (pa_cons (pv 12) pa_nil)) (pe_callB call_len_seq (by rfl) (b_len T) boot_len' (pa_cons (pe_ix ix_list (pe_ix ix_list (pe_dget (hu_of hr) (pv 5) pe_str (fun _ _ => rfl)) (pe_dget (hu_of hr) (pv 5) pe_str (fun _ _ => rfl)) (fun _ _ => rfl)) pe_int (fun _ _ => rfl)) pa_nil))))
      (pss_cons (ps_set (i := 15) n_law.nd rfl (by first | exact .inl rfl | exact .inr rfl) (pe_callR (ok_ulaw_due T) (hr.mono (by decide)) rfl (g_ulaw_due T) (k_ulaw_due T) at0 (pa_cons (pv 5) (pa_cons (pv 10) pa_nil))))
      (pss_cons (ps_if (pt_not (pt_val (pe_callR (ok_ulaw_exact T) (hr.mono (by decide)) rfl (g_ulaw_exact T) (k_ulaw_exact T) at0 (pa_cons (pe_callR (FnR.fr (ok_ulaw_told T)) (hr.mono (by decide)) rfl (g_ulaw_told T) (k_ulaw_told T) at0 (pa_cons (pv 6) (pa_cons (pv 10) pa_nil))) (pa_cons (pv 15) pa_nil))))) (pss_one (ps_ret pe_bl)) pss_nil)
      (pss_cons (ps_if (PW.pt (pw_or (pt_cmpR op_notN (pv 11) pe_non (nomark _)) (pw_or1 (pt_cmpR op_gt (pe_callR (ok_ulaw_draw T) (hr.mono (by decide)) rfl (g_ulaw_draw T) (k_ulaw_draw T) at0 (pa_cons (pv 1) (pa_cons (pv 0) (pa_cons pe_int pa_nil)))) pe_int (nomark _))))) (pss_one (ps_if (pt_not (pt_val (pe_callR (FnR.fr (ok_ulaw_seen T)) (hr.mono (by decide)) rfl (g_ulaw_seen T) (k_ulaw_seen T) at0 (pa_cons (pv 6) (pa_cons (pv 5) (pa_cons pe_bl pa_nil)))))) (pss_one (ps_ret pe_bl)) pss_nil)) pss_nil)
      (pss_one (ps_if (PW.pt (pw_and (pt_cmpR op_eq (pe_ix ix_tup (pv 10) pe_int (fun _ _ => rfl)) pe_str (nomark _)) (pw_and (pt_cmpR op_notN (pv 11) pe_non (nomark _)) (pw_and1 (pt_cmpR op_eq (pe_callR (ok_ulaw_draw T) (hr.mono (by decide)) rfl (g_ulaw_draw T) (k_ulaw_draw T) at0 (pa_cons (pv 1) (pa_cons (pv 0) (pa_cons pe_int pa_nil)))) pe_int (nomark _)))))) (pss_cons (ps_set (i := 10) n_law.nd rfl (by first | exact .inl rfl | exact .inr rfl) (pe_tup (pa_cons pe_str (pa_cons (pe_slice sl_list (pe_ix ix_tup (pv 10) pe_int (fun _ _ => rfl)) po_none (po_some (pv 14))) pa_nil))))
      (pss_cons (ps_set (i := 15) n_law.nd rfl (by first | exact .inl rfl | exact .inr rfl) (pe_callR (ok_ulaw_due T) (hr.mono (by decide)) rfl (g_ulaw_due T) (k_ulaw_due T) at0 (pa_cons (pv 5) (pa_cons (pv 10) pa_nil))))
      (pss_one (ps_if (PW.pt (pw_or (pt_not (pt_val (pe_callR (ok_ulaw_exact T) (hr.mono (by decide)) rfl (g_ulaw_exact T) (k_ulaw_exact T) at0 (pa_cons (pe_callR (FnR.fr (ok_ulaw_told T)) (hr.mono (by decide)) rfl (g_ulaw_told T) (k_ulaw_told T) at0 (pa_cons (pv 6) (pa_cons (pv 10) pa_nil))) (pa_cons (pv 15) pa_nil))))) (pw_or1 (pt_not (pt_val (pe_callR (FnR.fr (ok_ulaw_seen T)) (hr.mono (by decide)) rfl (g_ulaw_seen T) (k_ulaw_seen T) at0 (pa_cons (pv 6) (pa_cons (pv 5) (pa_cons pe_bl pa_nil))))))))) (pss_one (ps_ret pe_bl)) pss_nil)))) pss_nil))))))))))
      (pss_one (ps_ret (pe_and (pe_callR (FnR.fr (ok_ulaw_seen T)) (hr.mono (by decide)) rfl (g_ulaw_seen T) (k_ulaw_seen T) at0 (pa_cons (pv 6) (pa_cons (pv 5) (pa_cons pe_bl pa_nil)))) (pe_one (pe_callR (ok_ulaw_walked T) (hr.mono (by decide)) rfl (g_ulaw_walked T) (k_ulaw_walked T) at0 (pa_cons (pv 6) (pa_cons (pv 5) pa_nil)))))))))))))))), fun ds F P h gF => ?_⟩
  obtain ⟨xs, rfl, hP⟩ := h
  refine .good fun gF0 => ?_
  refine .seq (.asg (.lstF (ds := [.i 0, .i 0, .i 0]) (.cons .int (.cons .int (.cons .int .nil))) (by rw [sizeLine_eq]; simp) (fun g vs hg hr => ?_) (fun dd hd => ⟨.int 0, True.intro, (fun _ z => by cases z), (show dd = .i 0 by simpa using hd)⟩)))
  have hv : vs = [.int 0, .int 0, .int 0] := by
    obtain ⟨v1, w1, e1, r1, t1⟩ := (hr nilH).uncons
    obtain ⟨v2, v3, e2, r2, r3⟩ := t1.two
    rw [e1, e2, r1.int_inv, r2.int_inv, r3.int_inv]
  subst hv
  refine .seq (.asg (.call (.eva (.cons (.var rfl) (.cons (.var rfl) .nil)) ⟨g, xs, rfl, ⟨0, 0, 0, upd_same, by decide, by decide⟩, fun n a1 b1 c1 n0 n1 a0 c0 => ?_⟩)))
  rw [upd_upd]
  refine .seq (.asg (.call (.eva (.cons (.var rfl) (.cons (.var rfl) (.cons .int .nil))) ⟨g, xs, 4, rfl, (.put a0 c0), (by omega), (by omega), fun k a1 b1 c1 k0 k1 a0 c0 => ?_⟩)))
  rw [upd_upd]
  refine .seq (.asg (.call (.eva (.cons (.var rfl) (.cons (.var rfl) .nil)) ⟨g, xs, rfl, .put a0 c0, fun r a1 b1 c1 r0 r1 a0 c0 hr0 => ?_⟩)))
  rw [upd_upd]
  have hr1 : 1 ≤ r := by
    have : r ≠ 0 := fun z => hr0 (by rw [z])
    omega
  refine .seq (.asg (.call (.eva (.cons (.var rfl) (.cons (.var rfl) (.cons (.var rfl) .nil))) ⟨n, k, r, rfl, n0, (by omega), fun b v hb => ?_⟩)))
  have gFb : Good (upd F g (bagO a1 b1 c1)) := gF0.new hg rfl
  refine .seq (.asg (.call (.eva (.cons (.var rfl) (.cons (.var rfl) (.cons (.var rfl) .nil))) ⟨nilH, _, joi_nilL.symm, (fun _ => .inl rfl), good_nil, gFb.new hb rfl, n, k, r, rfl, n0, (by omega), k0, (by omega), hr1, (by omega), fun d Fd A hD dj gd => ?_⟩)))
  obtain ⟨dj2, db⟩ := disj_unput dj hb
  have W0 : WB K k r d b g ⟨n, r, k, [], [], St0 n, []⟩ v 0 (joi Fd (upd (upd F g (bagO a1 b1 c1)) b (boxO k r v 0))) := ⟨F, a1, b1, c1, hg, a0, c0, ⟨⟨Fd, A, rfl, dj2, gd, db, hD⟩, gFb, hb⟩⟩
  have I0 : Inv n k r ⟨n, r, k, [], [], St0 n, []⟩ [] 0 := ⟨n0, by omega, k0, by omega, hr1, by omega, rfl, rfl, rfl, Nat.le_refl _, rfl, rfl, rfl, rfl, (fun _ h => by cases h), .nil _, by show (0 : Int) ≤ r; omega⟩
  generalize joi Fd (upd (upd F g (bagO a1 b1 c1)) b (boxO k r v 0)) = F1 at W0
  refine .seq (.asg (.call (.eva (.cons (.var rfl) (.cons (.var rfl) (.cons .int .nil))) ⟨g, xs, 60, rfl, W0.bag, (by omega), (by omega), fun u a2 b2 c2 u0 u1 a0 c0 => ?_⟩)))
  have W1 := W0.draw (y := b2) a0 c0
  generalize upd F1 g (bagO a2 b2 c2) = F2 at W1
  refine .seq (.asg (.call (.eva (.cons (.var rfl) (.cons (.var rfl) (.cons (.var rfl) .nil))) ⟨g, xs, n, rfl, n0, (by omega), W1.bag, fun plan a3 b3 c3 hpl a0 c0 => ?_⟩)))
  have W2 := W1.draw (y := b3) a0 c0
  generalize upd F2 g (bagO a3 b3 c3) = F3 at W2
  refine .seq (.forRange1 (.addR .int (.call (.eva (.cons (.var rfl) (.cons (.var rfl) (.cons .int .nil))) ⟨g, xs, 12, rfl, W2.bag, (by omega), (by omega), fun m a4 b4 c4 m0 m1 a0 c0 => ⟨m, rfl, _, rfl, ?_, ?_, fun _ ss' F' => ∃ steps j v D o9 o10 o11 o12 o13 o14 o15, ss' = [some (.sc xs), some (.m g), some (.i n), some (.i k), some (.i r), some (.gh (.m b) v (pastD (pastP n steps))), some (.m d), some (.i u), some (.l (plan.map DV.i)), o9, o10, o11, o12, o13, o14, o15] ∧ WB K k r d b g D v j F' ∧ Inv n k r D steps j, ⟨[], 0, v, _, none, none, none, none, none, none, none, rfl, W2.draw a0 c0, I0⟩, fun t ss' F' ht ⟨steps, j, v, D, o9, o10, o11, o12, o13, o14, o15, e1, W, I⟩ => ?_, fun ss' F' ⟨steps, j, v, D, o9, o10, o11, o12, o13, o14, o15, e1, W, I⟩ => ?_⟩⟩))))
  · omega
  · omega
  · subst e1
    generalize (0 + (t : Nat) : Int) = tt
    refine .seq (.asg (.evf (.tup (.cons .str (.cons (.var rfl) .nil)) (by rw [sizeLine_eq]; simp)) ?_))
    refine .seq (RnF.mono (R := P) (N := fun ss' F' => ∃ x ops, DeedOk x ops ∧ ss' = [some (.sc xs), some (.m g), some (.i n), some (.i k), some (.i r), some (.gh (.m b) v (pastD (pastP n steps))), some (.m d), some (.i u), some (.l (plan.map DV.i)), some (.i tt), some (deedD x ops), o11, o12, o13, o14, o15] ∧ WB K k r d b g D v j F')
      (.ifB (.or (.test (.gt (.var rfl) .int)) (fun _ => .test (.eqNil (.var rfl) (.lst .nil (by rw [sizeLine_eq]; simp))))) (fun _ => .asg (W.deed (ib := 5) rfl I u0 u1 (.cons (.var rfl) (.cons (.var rfl) (.cons (.var rfl) (.cons (.var rfl) .nil)))) fun x ops F4 ho W4 => ⟨x, ops, ho, rfl, W4⟩)) (fun _ => .nil ⟨"attempt", plan, .inr (.inr (.inr ⟨rfl, hpl⟩)), rfl, W⟩)) (fun ss' F4 ⟨x, ops, ho, e1, W⟩ => ?_) (fun _ _ z => z))
    subst e1
    obtain ⟨Fb0, bx, bz, by', hb0, hx0, hz0, Wd0⟩ := W
    have hl := I.lens
    refine .seq (.tup3 (Wd0.look (ib := 5) (x := rchD (rch k r (preF steps j) (runS (St0 n) (preF steps j)) ops 0)) rfl (.call (.cons (.var rfl) (.cons (.ixT (.var rfl) .int rfl) .nil)) ⟨k, r, pastP n steps, j, preF steps j, runS (St0 n) (preF steps j), ops, rfl, atI_past I.at, (I.wf j).1, I.k0, I.k1, by omega, ho.len, rfl⟩) nd_rch ⟨_, _, _, rfl, ?_⟩))
    refine .seq (.asg (Wd0.look (ib := 5) (x := .i (((rch k r (preF steps j) (runS (St0 n) (preF steps j)) ops 0).2.1.length : Int) - (preF steps j).length)) rfl (.sub (.lenI (.var rfl)) (.lenI (.ixL (.ixL (.dget (.var rfl) .str rfl) (.dget (.var rfl) .str rfl) (atI_past I.at)) .int rfl))) (.i _) ?_))
    generalize (((rch k r (preF steps j) (runS (St0 n) (preF steps j)) ops 0).2.1.length : Int) - (preF steps j).length) = good
    generalize rch k r (preF steps j) (runS (St0 n) (preF steps j)) ops 0 = q
    have exD : ExO (dueI n k r steps j x ops).1 := ex_due
    refine .seq (.asgG (i := 15) (j := 5) (by decide) rfl (.call (.eva (.cons (.var rfl) (.cons (.var rfl) .nil)) (Wd0.due I (x := x) (ops := ops) ho.len fun v' F5 W5 => ⟨_, v', _, rfl, ?_⟩))))
    refine .seq (.ifS (.not (.val (.call (.cons (.call (.eva (.cons (.var rfl) (.cons (.var rfl) .nil)) (W5.told I ho fun F6 D2 steps2 e2 W6 I2 => .cons (.evf (.var rfl) (.nil ⟨_, exD.ex, true, rfl, ?_⟩))))))))))
    refine .nil ?_
    rw [e2]
    generalize (dueI n k r steps j x ops).2.2 = j2 at W6 I2
    generalize (dueI n k r steps j x ops).1 = due
    have WB6 : WB K k r d b g D2 v' j2 F6 := ⟨Fb0, bx, bz, by', hb0, hx0, hz0, W6⟩
    refine .seq (RnF.mono (R := P) (N := fun ss' F' => ss' = [some (.sc xs), some (.m g), some (.i n), some (.i k), some (.i r), some (.gh (.m b) v' (pastD (pastP n steps2))), some (.m d), some (.i u), some (.l (plan.map DV.i)), some (.i tt), some (deedD x ops), some (wrD q.1), some (.l (q.2.1.map DV.i)), some q.2.2.D, some (.i good), some due] ∧ WB K k r d b g D2 v' j2 F')
      (.ifAny (S := fun F' => WB K k r d b g D2 v' j2 F') (.orAny (EvB.any (.test (.notNone (.var rfl) .non)) WB6) (fun F7 W7 => .test (.gtL (.call (.eva (.cons (.var rfl) (.cons (.var rfl) (.cons .int .nil))) ⟨g, xs, 3, rfl, W7.bag, (by omega), (by omega), fun t3 a5 b5 c5 t0 t1 a0 c0 => ⟨t3, rfl, _, rfl, W7.draw a0 c0⟩⟩)) .int)))
        (fun F7 ⟨F8, y1, y2, y3, h8, hy1, hy3, W8⟩ => .ifS (.not (.val (W8.seen I2 (ib := 5) rfl (.cons (.var rfl) (.cons (.var rfl) (.cons .bl .nil))) fun F9 W9 => ⟨true, rfl, .nil ⟨rfl, F8, y1, y2, y3, h8, hy1, hy3, W9⟩⟩)))) (fun F7 W7 => .nil ⟨rfl, W7⟩)) (fun ss' F7 ⟨e1, W7⟩ => ?_) (fun _ _ z => z))
    subst e1
    refine .ifAny (S := fun F' => WB K k r d b g D2 v' j2 F') (.andAny (EvB.any (.test (.eqS (.ixT (.var rfl) .int rfl) .str)) W7) (fun F8 W8 => .andAny (EvB.any (.test (.notNone (.var rfl) .non)) W8) (fun F9 W9 => .test (.eqL (.call (.eva (.cons (.var rfl) (.cons (.var rfl) (.cons .int .nil))) ⟨g, xs, 2, rfl, W9.bag, (by omega), (by omega), fun t3 a5 b5 c5 t0 t1 a0 c0 => ⟨t3, rfl, _, rfl, W9.draw a0 c0⟩⟩)) .int))))
      (fun F8 ⟨F9, y1, y2, y3, h8, hy1, hy3, W8⟩ => ?_) (fun F8 W8 => .nil ⟨steps2, j2, v', D2, _, _, _, _, _, _, _, rfl, W8, I2⟩)
    refine .seq (.asg (.evf (.tup (.cons .str (.cons (.slice (.ixT (.var rfl) .int rfl) .no (.some (.var rfl))) .nil)) (by rw [sizeLine_eq]; simp)) ?_))
    rw [cutD_ints]
    have hok : DeedOk "attempt" (ops.take (HT.sIx ops.length ops.length (some good))) := .inr (.inr (.inr ⟨rfl, by have := ho.len; rw [List.length_take]; omega⟩))
    generalize ops.take (HT.sIx ops.length ops.length (some good)) = ops2 at hok
    have exD2 : ExO (dueI n k r steps2 j2 "attempt" ops2).1 := ex_due
    refine .seq (.asgG (i := 15) (j := 5) (by decide) rfl (.call (.eva (.cons (.var rfl) (.cons (.var rfl) .nil)) (W8.due I2 (x := "attempt") (ops := ops2) hok.len fun v3 F10 W10 => ⟨_, v3, _, rfl, ?_⟩))))
    refine .ifS (.or (.not (.val (.call (.cons (.call (.eva (.cons (.var rfl) (.cons (.var rfl) .nil)) (W10.told I2 hok fun F11 D3 steps3 e3 W11 I3 => .cons (.evf (.var rfl) (.nil ⟨_, exD2.ex, true, rfl, ?_⟩))))))))))
    rw [e3]
    generalize (dueI n k r steps2 j2 "attempt" ops2).2.2 = j3 at W11 I3
    refine .not (.val (W11.seen I3 (ib := 5) rfl (.cons (.var rfl) (.cons (.var rfl) (.cons .bl .nil))) fun F12 W12 => ⟨true, rfl, ?_⟩))
    exact .nil ⟨steps3, j3, v3, D3, _, _, _, _, _, _, _, rfl, ⟨F9, y1, y2, y3, h8, hy1, hy3, W12⟩, I3⟩
  · subst e1
    obtain ⟨F9, y1, y2, y3, h8, hy1, hy3, W8⟩ := W
    exact .ret (.andT (W8.seen I (ib := 5) rfl (.cons (.var rfl) (.cons (.var rfl) (.cons .bl .nil))) fun F12 W12 => ⟨rfl, .call (.eva (.cons (.var rfl) (.cons (.var rfl) .nil)) ⟨d, b, n, k, r, steps, j, v, _, D, rfl, W12, I, hP⟩)⟩))

end
end Lay
end
set_option Elab.async false
set_option linter.all false
set_option maxRecDepth 100000
set_option maxHeartbeats 0
namespace Lay
open PySem PySem.Spec PyProof.Rows L2
theorem only_good {H : Hp} (h : Only H) : Good H := by
  have key : ∀ {a : Addr} {o : HO}, H a = some o → ∃ u xs, o = .frz u (.lst xs) := fun {a o} e => by
    rcases h a with z | ⟨u, xs, z⟩
    · rw [z] at e; cases e
    · rw [z] at e; exact ⟨u, xs, (Option.some.inj e).symm⟩
  refine ⟨fun a o e => ?_, fun a C dx fs e => ?_, fun d a e => ?_⟩
  · obtain ⟨u, xs, rfl⟩ := key e
    exact .inl rfl
  · obtain ⟨u, xs, z⟩ := key e
    cases z
  · obtain ⟨u, xs, z⟩ := key e
    cases z
theorem facts {w : World} {K : PySem.W.Frag} {h : Heap} {mg : Str → Option Value} {f : Addr} (X : K.In h) (G : h.Ns mainGlobals mg) (hfa : mg ("law" : Str) = some (.ref f)) (c : SaysL faL fnL K) :
    ∃ fd : FuncData, (∀ (s : Shared) (v : Value), BindsTo s fd ⟨[v], []⟩ [("_law_script", v)]) ∧ ∀ base : Heap, K.In base → base.Ns mainGlobals mg → FnOk PW w K mg base CX0 24 f fd ["_law_script"] (PD K ph_law) := by
  have T : TX K mg := ⟨c, h, X, G⟩
  obtain ⟨fd, F⟩ := f_law T
  have e := hfa.symm.trans (g_law T)
  cases e
  have b := FunD.bindsA (ps := ["_law_script"]) F fun _ _ _ _ _ _ us hl => match us, hl with | [_], _ => rfl
  exact ⟨fd, fun s v => b s [v] rfl, fun base _ _ => okk_law T F⟩
end Lay
open PySem PySem.W PySem.Calls PyProof.Rows
theorem PySem.Challenge.cw_latelink_k43_whole_attempts_are_all_or_n_holds : PySem.Challenge.rw_latelink_k43_whole_attempts_are_all_or_n.Holds := by
  w_on; o_law
  refine HandSHeadRun.head_any (r := Lay.R) (q := Lay.qv) (H := Lay.hkL) (ob := Lay.obL) (M := 10000) (loose := Lay.names) (d := HandSHeadRun.topDef Lay.R.prog 101) (kwd := []) Lay.obL_eq
    (by kernel_rfl) (fun s => by kernel_rfl) Lay.run (by kernel_rfl) (by kernel_rfl) (by kernel_rfl) (by rfl) (by first | assumption | decide +kernel) (by decide +kernel) ⟨rfl, rfl, rfl, rfl, rfl, by decide +kernel⟩ ?hw ?hc
  case hw => w_witness2
  case hc =>
    refine L2.walk_ofE (l := PySem.Challenge.rw_latelink_k43_whole_attempts_are_all_or_n) (n := 63) (k := 24) (x := "_law_script") (CX := L2.CX0) rfl (by decide) (by kernel_rfl) ⟨rfl, by decide, by decide⟩ ?F (fun _ _ _ _ z => z)
    intro w mg fa h Y G hmg0
    obtain ⟨K, KX, c⟩ := Y
    have hmg : mg ("law" : PySem.Str) = some (.ref fa) := by
      have e : (HandSHeadRun.topDef Lay.R.prog 101).name = ("law" : PySem.Str) := by kernel_rfl
      rw [← e]
      exact hmg0
    obtain ⟨fd, hb, hF⟩ := Lay.facts (w := w) KX G hmg c
    exact ⟨K, fd, Lay.PD K Lay.ph_law, KX, hb, fun H a ns hl hO hS => ⟨H, Lay.nilH, [.sc ns], fun d _ => d = .b true, Lay.joi_nil.symm, Lay.disj_nil, Lay.only_good hO, Lay.good_nil, .cons (.sc hS) .nil, ⟨ns, rfl, fun _ => rfl⟩, fun v d G' F' g r e => by subst e; exact r.bl_inv⟩, hF⟩
